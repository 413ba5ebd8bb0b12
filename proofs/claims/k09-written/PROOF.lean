import PyProof.Rows.All
import Wide.All
import OpenK.AllK
import Wide.FinOn
import HandS.ForMost
import HandS.Codes
import HandS.Conv
import HandS.RevRange
import HandS.IsInst
import HandS.Style
import HandS.SetFor
import HandS.Zip
import HandS.StrMore
import HandS.Flow
import HandS.More
import HandS.Small
import HandS.SuiteRaise
import HandS.TryOnly
import HandS.TryElse
import HandS.ExcIs
import HandS.ExcBuiltin
import HandS.Text
import HandS.RaiseMore
import PySem.Challenge.RW_riffles_k09_written
/-! Rm: lists that are orders. Plain Lean. -/
namespace Rm
/-- all numbers below n, each once -/
def IsP (n : Nat) (l : List Nat) : Prop := l.length = n ∧ l.Nodup ∧ ∀ x ∈ l, x < n
theorem perm_of_sub {l : List Nat} : ∀ {m : List Nat}, l.Nodup → (∀ x ∈ l, x ∈ m) → m.length ≤ l.length → m.Perm l := by
  induction l with
  | nil =>
    intro m _ _ hl
    have : m = [] := List.length_eq_zero_iff.mp (Nat.le_zero.mp hl)
    rw [this]
  | cons a l ih =>
    intro m nd hs hl
    obtain ⟨h1, h2⟩ := List.nodup_cons.mp nd
    have ha : a ∈ m := hs a (List.mem_cons_self ..)
    have hp : m.Perm (a :: m.erase a) := List.perm_cons_erase ha
    have hlen : (m.erase a).length = m.length - 1 := List.length_erase_of_mem ha
    have hpos : 0 < m.length := List.length_pos_of_mem ha
    refine hp.trans (List.Perm.cons a (ih h2 (fun x hx => ?_) (by rw [hlen]; simp only [List.length_cons] at hl; omega)))
    have hne : x ≠ a := fun e => h1 (e ▸ hx)
    exact (List.mem_erase_of_ne hne).mpr (hs x (List.mem_cons_of_mem _ hx))
theorem isP_iff {n : Nat} {l : List Nat} : IsP n l ↔ l.Perm (List.range n) := by
  constructor
  · rintro ⟨h1, h2, h3⟩
    exact (perm_of_sub (l := l) (m := List.range n) h2 (fun x hx => List.mem_range.mpr (h3 x hx)) (by rw [List.length_range]; omega)).symm
  · intro h
    refine ⟨by rw [h.length_eq, List.length_range], h.nodup_iff.mpr List.nodup_range, fun x hx => List.mem_range.mp (h.mem_iff.mp hx)⟩
theorem isP_range (n : Nat) : IsP n (List.range n) := isP_iff.mpr (List.Perm.refl _)
theorem IsP.mem {n : Nat} {l : List Nat} (h : IsP n l) {x : Nat} (hx : x < n) : x ∈ l := (isP_iff.mp h).mem_iff.mpr (List.mem_range.mpr hx)
/-- all numbers below n are there, no more places -/
theorem isP_of_all {n : Nat} {l : List Nat} (hl : l.length ≤ n) (h : ∀ x, x < n → x ∈ l) : IsP n l := by
  refine isP_iff.mpr (perm_of_sub List.nodup_range (fun x hx => h x (List.mem_range.mp hx)) (by rw [List.length_range]; exact hl))
theorem IsP.reverse {n : Nat} {l : List Nat} (h : IsP n l) : IsP n l.reverse := isP_iff.mpr ((List.reverse_perm l).trans (isP_iff.mp h))
theorem getD_of_lt {l : List Nat} {i : Nat} (h : i < l.length) : l.getD i 0 = l[i] := by
  rw [List.getD_eq_getElem?_getD, List.getElem?_eq_getElem h]
  rfl
theorem get?_getD {l : List Nat} {i : Nat} (h : i < l.length) : l[i]? = some (l.getD i 0) := by
  rw [List.getElem?_eq_getElem h, getD_of_lt h]
theorem mem_getD {l : List Nat} {x : Nat} (h : x ∈ l) : ∃ i, i < l.length ∧ l.getD i 0 = x := by
  obtain ⟨i, hi, e⟩ := List.getElem_of_mem h
  exact ⟨i, hi, by rw [getD_of_lt hi, e]⟩
theorem IsP.lt {n : Nat} {l : List Nat} (h : IsP n l) {i : Nat} (hi : i < n) : l.getD i 0 < n := by
  have hl : i < l.length := by rw [h.1]; exact hi
  rw [getD_of_lt hl]
  exact h.2.2 _ (List.getElem_mem hl)
theorem IsP.inj {n : Nat} {l : List Nat} (h : IsP n l) {i j : Nat} (hi : i < n) (hj : j < n) (e : l.getD i 0 = l.getD j 0) : i = j := by
  have h1 : i < l.length := by rw [h.1]; exact hi
  have h2 : j < l.length := by rw [h.1]; exact hj
  rw [getD_of_lt h1, getD_of_lt h2] at e
  exact (List.getElem_inj h.2.1).mp e
/-- an order read at the places of another -/
def pick (c os : List Nat) : List Nat := c.map fun i => os.getD i 0
theorem pick_length (c os : List Nat) : (pick c os).length = c.length := by unfold pick; rw [List.length_map]
theorem pick_getD {c os : List Nat} {i : Nat} (h : i < c.length) : (pick c os).getD i 0 = os.getD (c.getD i 0) 0 := by
  have h2 : i < (pick c os).length := by rw [pick_length]; exact h
  rw [getD_of_lt h2, getD_of_lt h]
  simp only [pick, List.getElem_map]
theorem isP_pick {n : Nat} {c os : List Nat} (hc : IsP n c) (ho : IsP n os) : IsP n (pick c os) := by
  refine isP_of_all (by rw [pick_length, hc.1]; exact Nat.le_refl _) fun x hx => ?_
  obtain ⟨i, hi, rfl⟩ := mem_getD (ho.mem hx)
  rw [ho.1] at hi
  obtain ⟨j, hj, rfl⟩ := mem_getD (hc.mem hi)
  rw [← pick_getD hj, getD_of_lt (by rw [pick_length]; exact hj)]
  exact List.getElem_mem _
theorem pick_range (os : List Nat) : pick (List.range os.length) os = os := by
  refine List.ext_getElem (by rw [pick_length, List.length_range]) fun i h1 h2 => ?_
  simp only [pick, List.getElem_map, List.getElem_range]
  exact getD_of_lt h2
theorem pick_id {n : Nat} {c : List Nat} (h : ∀ x ∈ c, x < n) : pick c (List.range n) = c := by
  refine List.ext_getElem (by rw [pick_length]) fun i h1 h2 => ?_
  have hx : c[i] < (List.range n).length := by rw [List.length_range]; exact h _ (List.getElem_mem h2)
  simp only [pick, List.getElem_map]
  rw [getD_of_lt hx, List.getElem_range]
/-! ### weaves -/
def weavePair (f h k : Nat) : List Nat := if f = 1 then [h + k, k] else [k, h + k]
def weaveCame (f n : Nat) : List Nat := (List.range (n / 2)).flatMap (weavePair f (n / 2))
theorem weavePair_len (f h k : Nat) : (weavePair f h k).length = 2 := by unfold weavePair; split <;> rfl
theorem flat2_len {g : Nat → List Nat} (hg : ∀ k, (g k).length = 2) (h : Nat) : ((List.range h).flatMap g).length = 2 * h := by
  induction h with
  | zero => rfl
  | succ h ih =>
    rw [List.range_succ, List.flatMap_append, List.length_append, ih, List.flatMap_cons, List.flatMap_nil, List.append_nil, hg]
    omega
theorem flat2_get {g : Nat → List Nat} (hg : ∀ k, (g k).length = 2) {h k j : Nat} (hk : k < h) (hj : j < 2) : ((List.range h).flatMap g)[2 * k + j]? = (g k)[j]? := by
  induction h with
  | zero => omega
  | succ h ih =>
    rw [List.range_succ, List.flatMap_append, List.flatMap_cons, List.flatMap_nil, List.append_nil]
    by_cases e : k < h
    · rw [List.getElem?_append_left (by rw [flat2_len hg]; omega)]
      exact ih e
    · have : k = h := by omega
      subst this
      rw [List.getElem?_append_right (by rw [flat2_len hg]; omega), flat2_len hg]
      congr 1
      omega
theorem weaveCame_len {f n : Nat} (h : n % 2 = 0) : (weaveCame f n).length = n := by
  unfold weaveCame
  rw [flat2_len (weavePair_len f _)]
  omega
theorem isP_weave {f n : Nat} (h : n % 2 = 0) : IsP n (weaveCame f n) := by
  refine isP_of_all (by rw [weaveCame_len h]; exact Nat.le_refl _) fun x hx => ?_
  unfold weaveCame
  by_cases e : x < n / 2
  · refine List.mem_flatMap.mpr ⟨x, List.mem_range.mpr e, ?_⟩
    unfold weavePair
    split <;> simp
  · refine List.mem_flatMap.mpr ⟨x - n / 2, List.mem_range.mpr (by omega), ?_⟩
    have : n / 2 + (x - n / 2) = x := by omega
    unfold weavePair
    rw [this]
    split <;> simp
/-- the card at v of the upper half comes to 2 v + f -/
theorem weave_at {f n v : Nat} (hf : f ≤ 1) (h : n % 2 = 0) (hv : v < n / 2) : (weaveCame f n).getD (2 * v + f) 0 = v := by
  have e : (weaveCame f n)[2 * v + f]? = (weavePair f (n / 2) v)[f]? := flat2_get (weavePair_len f _) hv (by omega)
  rw [List.getD_eq_getElem?_getD, e]
  unfold weavePair
  have : f = 0 ∨ f = 1 := by omega
  rcases this with rfl | rfl <;> rfl
/-! ### the top card brought to a place -/
def bits (n : Nat) : List Nat := if h : n = 0 then [] else bits (n / 2) ++ [n % 2]
termination_by n
decreasing_by omega
theorem bits_zero : bits 0 = [] := by rw [bits]; simp
theorem bits_pos {n : Nat} (h : n ≠ 0) : bits n = bits (n / 2) ++ [n % 2] := by
  rw [bits]
  simp [h]
def val (l : List Nat) : Nat := l.foldl (fun v f => 2 * v + f) 0
theorem val_snoc (l : List Nat) (f : Nat) : val (l ++ [f]) = 2 * val l + f := by
  unfold val
  rw [List.foldl_append]
  rfl
theorem val_bits (n : Nat) : val (bits n) = n := by
  induction n using Nat.strongRecOn with
  | _ n ih =>
    by_cases h : n = 0
    · subst h; rw [bits_zero]; rfl
    · rw [bits_pos h, val_snoc, ih (n / 2) (by omega)]
      omega
theorem val_le (l m : List Nat) : val l ≤ val (l ++ m) := by
  unfold val
  rw [List.foldl_append]
  generalize l.foldl (fun v f => 2 * v + f) 0 = s
  induction m generalizing s with
  | nil => exact Nat.le_refl _
  | cons a m ih =>
    rw [List.foldl_cons]
    exact Nat.le_trans (by omega) (ih _)
theorem bits_le {n : Nat} : ∀ x ∈ bits n, x ≤ 1 := by
  induction n using Nat.strongRecOn with
  | _ n ih =>
    by_cases h : n = 0
    · subst h; rw [bits_zero]; simp
    · rw [bits_pos h]
      intro x hx
      rcases List.mem_append.mp hx with hx | hx
      · exact ih (n / 2) (by omega) x hx
      · rw [List.mem_singleton] at hx
        omega
theorem bits_len {n : Nat} : ∀ k, n < 2 ^ k → (bits n).length ≤ k := by
  induction n using Nat.strongRecOn with
  | _ n ih =>
    intro k hk
    by_cases h : n = 0
    · subst h; rw [bits_zero]; simp
    · rw [bits_pos h, List.length_append]
      cases k with
      | zero => rw [Nat.pow_zero] at hk; omega
      | succ k =>
        have := ih (n / 2) (by omega) k (by rw [Nat.pow_succ] at hk; omega)
        simp only [List.length_cons, List.length_nil]
        omega
/-- one weave more -/
theorem brought_step {n v f place : Nat} {os : List Nat} (hf : f ≤ 1) (he : n % 2 = 0) (ho : IsP n os) (h0 : os.getD v 0 = 0) (hv : 2 * v + f ≤ place) (hp : place < n) : IsP n (pick (weaveCame f n) os) ∧ (pick (weaveCame f n) os).getD (2 * v + f) 0 = 0 := by
  refine ⟨isP_pick (isP_weave he) ho, ?_⟩
  rw [pick_getD (by rw [weaveCame_len he]; omega), weave_at hf he (by omega)]
  exact h0
end Rm

/-! Rm: the places that the cards come from, move by move; all are orders. -/
namespace Rm
theorem isP_of_mem {n : Nat} {l : List Nat} (nd : l.Nodup) (h : ∀ x, x ∈ l ↔ x < n) : IsP n l :=
  isP_iff.mpr ((List.perm_ext_iff_of_nodup nd List.nodup_range).mpr fun x => by rw [h, List.mem_range])
theorem nd_rev {l : List Nat} (h : l.Nodup) : l.reverse.Nodup := (List.reverse_perm l).nodup_iff.mpr h
def cutCame (k n : Nat) : List Nat := (List.range n).drop k ++ List.range k
theorem isP_cut {k n : Nat} (h : k ≤ n) : IsP n (cutCame k n) := by
  have e : List.range k = (List.range n).take k := by rw [List.take_range, Nat.min_eq_left h]
  unfold cutCame
  rw [e]
  refine isP_iff.mpr (List.perm_append_comm.trans ?_)
  rw [List.take_append_drop]
def dealPile (p n k : Nat) : List Nat := ((List.range n).filter fun i => i % p == k).reverse
def dealCame (p n : Nat) : List Nat := (List.range p).reverse.flatMap (dealPile p n)
theorem mem_dealPile {p n k x : Nat} : x ∈ dealPile p n k ↔ x < n ∧ x % p = k := by
  unfold dealPile
  rw [List.mem_reverse, List.mem_filter, List.mem_range, beq_iff_eq]
theorem isP_deal {p n : Nat} (h : 1 ≤ p) : IsP n (dealCame p n) := by
  refine isP_of_mem ?_ fun x => ?_
  · unfold dealCame
    refine List.pairwise_flatMap.mpr ⟨fun a _ => ?_, ?_⟩
    · show (dealPile p n a).Nodup
      unfold dealPile
      exact nd_rev (List.Pairwise.filter _ List.nodup_range)
    · refine List.Pairwise.imp (R := (· ≠ ·)) (fun {a b} hab x hx y hy e => ?_) (nd_rev (List.nodup_range (n := p)))
      subst e
      exact hab ((mem_dealPile.mp hx).2.symm.trans (mem_dealPile.mp hy).2)
  · unfold dealCame
    rw [List.mem_flatMap]
    constructor
    · rintro ⟨k, _, hx⟩
      exact (mem_dealPile.mp hx).1
    · intro hx
      exact ⟨x % p, List.mem_reverse.mpr (List.mem_range.mpr (Nat.mod_lt _ h)), mem_dealPile.mpr ⟨hx, rfl⟩⟩
def underGo {α : Type} : Nat → List α → List α → List α
  | 0, _, down => down
  | _ + 1, [], down => down
  | f + 1, x :: r, down => underGo f (r.drop 1 ++ r.take 1) (x :: down)
def underCame (n : Nat) : List Nat := underGo n (List.range n) []
theorem underGo_perm {α : Type} : ∀ (f : Nat) (l down : List α), l.length ≤ f → (underGo f l down).Perm (l ++ down)
  | 0, l, down, h => by
    have : l = [] := List.length_eq_zero_iff.mp (Nat.le_zero.mp h)
    subst this
    exact List.Perm.refl _
  | f + 1, [], down, _ => List.Perm.refl _
  | f + 1, x :: r, down, h => by
    have hp : (r.drop 1 ++ r.take 1).Perm r := List.perm_append_comm.trans (by rw [List.take_append_drop])
    have ih := underGo_perm f (r.drop 1 ++ r.take 1) (x :: down) (by rw [hp.length_eq]; simpa using h)
    show (underGo f (r.drop 1 ++ r.take 1) (x :: down)).Perm (x :: r ++ down)
    refine ih.trans ((List.Perm.append_right _ hp).trans ?_)
    exact List.perm_middle
theorem isP_under (n : Nat) : IsP n (underCame n) := by
  refine isP_iff.mpr ?_
  have := underGo_perm n (List.range n) [] (by rw [List.length_range]; exact Nat.le_refl _)
  rw [List.append_nil] at this
  exact this
def riffGo : List Bool → Nat → Nat → List Nat
  | [], _, _ => []
  | true :: w, u, l => u :: riffGo w (u + 1) l
  | false :: w, u, l => l :: riffGo w u (l + 1)
def riffCame (w : List Bool) : List Nat := riffGo w 0 (w.count true)
theorem riffGo_perm : ∀ (w : List Bool) (u l : Nat), (riffGo w u l).Perm (List.range' u (w.count true) ++ List.range' l (w.count false))
  | [], u, l => List.Perm.refl _
  | true :: w, u, l => by
    have e1 : (true :: w).count true = w.count true + 1 := by simp
    have e2 : (true :: w).count false = w.count false := by simp
    rw [e1, e2, List.range'_succ]
    exact List.Perm.cons _ (riffGo_perm w (u + 1) l)
  | false :: w, u, l => by
    have e1 : (false :: w).count true = w.count true := by simp
    have e2 : (false :: w).count false = w.count false + 1 := by simp
    rw [e1, e2, List.range'_succ]
    exact (List.Perm.cons _ (riffGo_perm w u (l + 1))).trans List.perm_middle.symm
theorem count_tf (w : List Bool) : w.count true + w.count false = w.length := by
  induction w with
  | nil => rfl
  | cons b w ih =>
    cases b
    · simp only [List.count_cons_self, List.length_cons, List.count_cons_of_ne (show false ≠ true by decide)]; omega
    · simp only [List.count_cons_self, List.length_cons, List.count_cons_of_ne (show true ≠ false by decide)]; omega
theorem isP_riffle (w : List Bool) : IsP w.length (riffCame w) := by
  refine isP_iff.mpr ((riffGo_perm w 0 (w.count true)).trans ?_)
  have e : List.range w.length = List.range' 0 (w.count true) ++ List.range' (w.count true) (w.count false) := by
    rw [List.range_eq_range', ← count_tf w]
    have := List.range'_append (s := 0) (m := w.count true) (n := w.count false) (step := 1)
    rw [Nat.one_mul, Nat.zero_add] at this
    exact this.symm
  rw [e]
end Rm

/-! Rm: rows of an order; a riffle at most doubles them. -/
namespace Rm
/-- the last list grown by c -/
def snocLast : List (List Nat) → Nat → List (List Nat)
  | [], _ => []
  | [r], c => [r ++ [c]]
  | r :: s :: R, c => r :: snocLast (s :: R) c
theorem snocLast_app (r : List Nat) (c : Nat) : ∀ R : List (List Nat), snocLast (R ++ [r]) c = R ++ [r ++ [c]]
  | [] => rfl
  | [a] => rfl
  | a :: b :: R => by
    show a :: snocLast (b :: R ++ [r]) c = _
    rw [snocLast_app r c (b :: R)]
    rfl
theorem snocLast_len (c : Nat) : ∀ R : List (List Nat), (snocLast R c).length = R.length
  | [] => rfl
  | [_] => rfl
  | _ :: b :: R => by
    show (snocLast (b :: R) c).length + 1 = _
    rw [snocLast_len c (b :: R)]
    rfl
/-- rows up to the card m, by the cards' places -/
def rowsTo (f : Nat → Nat) : Nat → List (List Nat)
  | 0 => [[0]]
  | m + 1 => snocLast (if f (m + 1) < f m then rowsTo f m ++ [[]] else rowsTo f m) (m + 1)
def descs (f : Nat → Nat) : Nat → Nat
  | 0 => 0
  | m + 1 => descs f m + if f (m + 1) < f m then 1 else 0
theorem rowsTo_len (f : Nat → Nat) : ∀ m, (rowsTo f m).length = descs f m + 1
  | 0 => rfl
  | m + 1 => by
    rw [rowsTo, snocLast_len, descs]
    split
    · rw [List.length_append, rowsTo_len f m]; rfl
    · rw [rowsTo_len f m]
theorem descs_le (f : Nat → Nat) : ∀ m, descs f m ≤ m
  | 0 => Nat.le_refl _
  | m + 1 => by
    have := descs_le f m
    rw [descs]
    split <;> omega
/-- the place of a card -/
def pos (os : List Nat) (c : Nat) : Nat := os.idxOf c
def rowsF (os : List Nat) : List (List Nat) := rowsTo (pos os) (os.length - 1)
theorem pos_lt {os : List Nat} {c : Nat} (h : c ∈ os) : pos os c < os.length := List.idxOf_lt_length_iff.mpr h
theorem pos_get {os : List Nat} {c : Nat} (h : c ∈ os) : os.getD (pos os c) 0 = c := by
  rw [getD_of_lt (pos_lt h)]
  exact List.getElem_idxOf (pos_lt h)
theorem pos_of {os : List Nat} (nd : os.Nodup) {i : Nat} (h : i < os.length) : pos os (os.getD i 0) = i := by
  rw [getD_of_lt h]
  have h2 := pos_lt (List.getElem_mem h)
  have := List.getElem_idxOf h2
  exact (List.getElem_inj nd).mp this
theorem rowsF_len {n : Nat} {os : List Nat} (h : IsP n os) (h1 : 1 ≤ n) : 1 ≤ (rowsF os).length ∧ (rowsF os).length ≤ n := by
  unfold rowsF
  rw [rowsTo_len, h.1]
  have := descs_le (pos os) (n - 1)
  omega
theorem snocLast_flat : ∀ (R : List (List Nat)) (c : Nat), R ≠ [] → (snocLast R c).flatten = R.flatten ++ [c]
  | [], _, h => absurd rfl h
  | [r], c, _ => by simp [snocLast]
  | r :: s :: R, c, _ => by
    show (r :: snocLast (s :: R) c).flatten = _
    rw [List.flatten_cons, snocLast_flat (s :: R) c (List.cons_ne_nil _ _), ← List.append_assoc, ← List.flatten_cons]
theorem rowsTo_ne (f : Nat → Nat) (m : Nat) : rowsTo f m ≠ [] := fun e => by
  have := rowsTo_len f m
  rw [e] at this
  exact absurd this (by simp)
/-! ### words -/
theorem riffGo_append : ∀ (p q : List Bool) (u l : Nat), riffGo (p ++ q) u l = riffGo p u l ++ riffGo q (u + p.count true) (l + p.count false)
  | [], _, _, _ => rfl
  | true :: p, q, u, l => by
    have e1 : (true :: p).count true = p.count true + 1 := by simp
    have e2 : (true :: p).count false = p.count false := by simp
    show u :: riffGo (p ++ q) (u + 1) l = _
    rw [riffGo_append p q, e1, e2, Nat.add_assoc, Nat.add_comm 1]
    rfl
  | false :: p, q, u, l => by
    have e1 : (false :: p).count true = p.count true := by simp
    have e2 : (false :: p).count false = p.count false + 1 := by simp
    show l :: riffGo (p ++ q) u (l + 1) = _
    rw [riffGo_append p q, e1, e2, Nat.add_assoc, Nat.add_comm 1]
    rfl
theorem riffGo_snoc (p : List Bool) (b : Bool) (u l : Nat) : riffGo (p ++ [b]) u l = riffGo p u l ++ [if b = true then u + p.count true else l + p.count false] := by
  rw [riffGo_append]
  cases b <;> rfl
theorem riffGo_len : ∀ (w : List Bool) (u l : Nat), (riffGo w u l).length = w.length
  | [], _, _ => rfl
  | true :: w, u, l => by show (riffGo w (u + 1) l).length + 1 = _; rw [riffGo_len w]; rfl
  | false :: w, u, l => by show (riffGo w u (l + 1)).length + 1 = _; rw [riffGo_len w]; rfl
theorem count_true_snoc (p : List Bool) : (p ++ [true]).count true = p.count true + 1 ∧ (p ++ [true]).count false = p.count false := by simp
theorem count_false_snoc (p : List Bool) : (p ++ [false]).count true = p.count true ∧ (p ++ [false]).count false = p.count false + 1 := by simp
theorem mem_riffGo {w : List Bool} {u l x : Nat} (h : x ∈ riffGo w u l) : (u ≤ x ∧ x < u + w.count true) ∨ l ≤ x := by
  rcases List.mem_append.mp ((riffGo_perm w u l).mem_iff.mp h) with h | h
  · rw [List.mem_range'_1] at h
    exact .inl ⟨h.1, h.2⟩
  · rw [List.mem_range'_1] at h
    exact .inr h.1
/-- of one half: in its order -/
def Half (m x y : Nat) : Prop := (x < m ↔ y < m) → x < y
theorem riffGo_half (m : Nat) : ∀ (w : List Bool) (u l : Nat), u + w.count true ≤ m → m ≤ l → (riffGo w u l).Pairwise (Half m)
  | [], _, _, _, _ => .nil
  | true :: w, u, l, h, h2 => by
    have e1 : (true :: w).count true = w.count true + 1 := by simp
    rw [e1] at h
    refine List.Pairwise.cons (fun y hy hh => ?_) (riffGo_half m w (u + 1) l (by omega) h2)
    rcases mem_riffGo hy with h3 | h3
    · omega
    · have := hh.mp (by omega)
      omega
  | false :: w, u, l, h, h2 => by
    have e1 : (false :: w).count true = w.count true := by simp
    rw [e1] at h
    refine List.Pairwise.cons (fun y hy hh => ?_) (riffGo_half m w u (l + 1) h (by omega))
    rcases mem_riffGo hy with h3 | h3
    · have := hh.mpr (by omega)
      omega
    · omega
theorem descs_two {m : Nat} {f g : Nat → Nat} (b : Nat → Bool) (hb : ∀ c, b c = decide (f c < m)) : ∀ k, (∀ c, c < k → (b c = b (c + 1)) → g (c + 1) < g c → f (c + 1) < f c) → descs g k ≤ 2 * descs f k + 1
  | k, h => by
    have main : ∀ j, j ≤ k → descs g j ≤ 2 * descs f j + (if b j = true then 0 else 1) + (if b 0 = true then 0 else 0) + (if b 0 = true then 0 else 0) := by
      intro j
      induction j with
      | zero => intro _; simp [descs]
      | succ j ih =>
        intro hj
        have ih := ih (by omega)
        have hs := h j (by omega)
        have b1 := hb j
        have b2 := hb (j + 1)
        rw [descs, descs]
        cases c1 : b j <;> cases c2 : b (j + 1) <;> rw [c1] at b1 ih hs <;> rw [c2] at b2 hs <;> simp only [if_true, Bool.false_eq_true, if_false, ite_self] at ih ⊢ <;>
          simp only [true_implies, reduceCtorEq, false_implies] at hs
        · by_cases q : g (j + 1) < g j
          · rw [if_pos q, if_pos (hs q)]; omega
          · rw [if_neg q]; split <;> omega
        · have e1 := of_decide_eq_false b1.symm
          have e2 := of_decide_eq_true b2.symm
          rw [if_pos (show f (j + 1) < f j by omega)]
          split <;> omega
        · split <;> split <;> omega
        · by_cases q : g (j + 1) < g j
          · rw [if_pos q, if_pos (hs q)]; omega
          · rw [if_neg q]; split <;> omega
    have := main k (Nat.le_refl _)
    simp only [ite_self] at this
    split at this <;> omega
/-- behind a riffle at most twice as many rows -/
theorem rows_riffle {w : List Bool} {os : List Nat} (ho : IsP w.length os) : (rowsF (pick (riffCame w) os)).length ≤ 2 * (rowsF os).length := by
  have hc := isP_riffle w
  have hp := isP_pick hc ho
  unfold rowsF
  rw [rowsTo_len, rowsTo_len, hp.1, ho.1]
  have key : ∀ c, c < w.length → (riffCame w).getD (pos (pick (riffCame w) os) c) 0 = pos os c := by
    intro c hcl
    have hm := hp.mem hcl
    have h1 := pos_lt hm
    have h2 := pos_get hm
    rw [hp.1] at h1
    rw [pick_getD (by rw [hc.1]; exact h1)] at h2
    have h3 := pos_get (ho.mem hcl)
    have h4 := pos_lt (ho.mem hcl)
    rw [ho.1] at h4
    exact ho.inj (hc.lt h1) h4 (h2.trans h3.symm)
  have hpw : (riffCame w).Pairwise (Half (w.count true)) := riffGo_half _ w 0 _ (by omega) (Nat.le_refl _)
  refine Nat.le_trans (Nat.add_le_add_right (descs_two (m := w.count true) (f := pos os) (fun c => decide (pos os c < w.count true)) (fun _ => rfl) (w.length - 1) ?_) 1) (by omega)
  intro c hcl hb hg
  have h1 := pos_lt (hp.mem (x := c) (by omega))
  have h2 := pos_lt (hp.mem (x := c + 1) (by omega))
  rw [hp.1] at h1 h2
  have k1 := key c (by omega)
  have k2 := key (c + 1) (by omega)
  have l1 : pos (pick (riffCame w) os) c < (riffCame w).length := by rw [hc.1]; exact h1
  have l2 : pos (pick (riffCame w) os) (c + 1) < (riffCame w).length := by rw [hc.1]; exact h2
  have := List.pairwise_iff_getElem.mp hpw _ _ l2 l1 hg
  rw [← getD_of_lt l1, ← getD_of_lt l2, k1, k2] at this
  refine this ?_
  have hb := decide_eq_decide.mp hb
  exact hb.symm
end Rm

/-! Rm: how many orders have so many rows. -/
namespace Rm
def lineF : Nat → List Nat
  | 0 => [0, 1]
  | k + 1 => 0 :: (List.range (k + 2)).map fun i => (1 + i) * (lineF k).getD (1 + i) 0 + (k + 2 - i) * (lineF k).getD i 0
theorem lineF_len : ∀ k, (lineF k).length = k + 2
  | 0 => rfl
  | k + 1 => by rw [lineF, List.length_cons, List.length_map, List.length_range]
def eul (k m : Nat) : Nat := (lineF k).getD m 0
theorem eul_zero : ∀ k, eul k 0 = 0
  | 0 => rfl
  | _ + 1 => rfl
theorem eul_big {k m : Nat} (h : k + 2 ≤ m) : eul k m = 0 := by
  unfold eul
  rw [List.getD_eq_getElem?_getD, List.getElem?_eq_none (by rw [lineF_len]; exact h)]
  rfl
theorem eul_step {k i : Nat} (h : i < k + 2) : eul (k + 1) (i + 1) = (i + 1) * eul k (i + 1) + (k + 2 - i) * eul k i := by
  unfold eul
  rw [lineF, List.getD_cons_succ, getD_of_lt (by simpa using h), List.getElem_map, List.getElem_range, Nat.add_comm 1 i]
theorem eul_sym : ∀ (k i : Nat), i ≤ k → eul k (i + 1) = eul k (k + 1 - i)
  | 0, i, h => by
    have : i = 0 := by omega
    subst this
    rfl
  | k + 1, i, h => by
    have e1 : k + 1 + 1 - i = (k + 1 - i) + 1 := by omega
    rw [e1, eul_step (by omega), eul_step (by omega)]
    have a1 : eul k (k + 1 - i) = eul k (i + 1) := by
      by_cases e : i ≤ k
      · exact (eul_sym k i e).symm
      · have : i = k + 1 := by omega
        subst this
        rw [Nat.sub_self, eul_zero, eul_big (by omega)]
    have a2 : eul k (k + 1 - i + 1) = eul k i := by
      cases i with
      | zero => rw [eul_zero, eul_big (by omega)]
      | succ j =>
        have := eul_sym k j (by omega)
        rw [this]
        congr 1
        omega
    rw [a1, a2]
    have e2 : k + 2 - (k + 1 - i) = i + 1 := by omega
    have e3 : k + 1 - i + 1 = k + 2 - i := by omega
    rw [e2, e3, Nat.add_comm]
theorem eul_one : ∀ k, eul k 1 = 1
  | 0 => rfl
  | k + 1 => by
    rw [eul_step (i := 0) (by omega), eul_zero, eul_one k]
    omega
/-! all orders -/
def ordersF : Nat → List (List Nat)
  | 0 => [[]]
  | n + 1 => (List.range (n + 1)).flatMap fun at' => (ordersF n).map fun o => o.take at' ++ [n] ++ o.drop at'
theorem isP_orders : ∀ (n : Nat) (o : List Nat), o ∈ ordersF n → IsP n o
  | 0, o, h => by
    have : o = [] := by simpa [ordersF] using h
    subst this
    exact ⟨rfl, List.nodup_nil, fun _ h => by cases h⟩
  | n + 1, o, h => by
    rw [ordersF, List.mem_flatMap] at h
    obtain ⟨k, _, h⟩ := h
    obtain ⟨q, hq, rfl⟩ := List.mem_map.mp h
    have hp := isP_iff.mp (isP_orders n q hq)
    refine isP_iff.mpr ?_
    rw [List.range_succ]
    have h1 : (q.take k ++ [n] ++ q.drop k).Perm (q.take k ++ q.drop k ++ [n]) := by
      rw [List.append_assoc, List.append_assoc]
      exact List.Perm.append_left _ List.perm_append_comm
    rw [List.take_append_drop] at h1
    exact h1.trans (List.Perm.append_right _ hp)
theorem orders_len : ∀ n, n ≤ 5 → (ordersF n).length ≤ 120 := by
  have : ∀ i : Fin 6, (ordersF i.val).length ≤ 120 := by decide +kernel
  intro n h
  exact this ⟨n, by omega⟩
/-- by all orders gone through -/
theorem brute {s m : Nat} (h1 : 1 ≤ s) (h5 : s ≤ 5) (hm : m < s + 3) : ((ordersF s).map fun o => (rowsF o).length).count m = eul (s - 1) m := by
  have : ∀ i : Fin 5, ∀ m : Fin 8, ((ordersF (i.val + 1)).map fun o => (rowsF o).length).count m.val = eul i.val m.val := by decide +kernel
  have := this ⟨s - 1, by omega⟩ ⟨m, by omega⟩
  simp only at this
  rwa [Nat.sub_add_cancel h1] at this
def fact : Nat → Nat
  | 0 => 1
  | n + 1 => fact n * (n + 1)
theorem line_sum {c : Nat} (h1 : 6 ≤ c) (h2 : c ≤ 14) : ((List.range (c + 2)).map fun m => eul (c - 1) m).sum = fact c := by
  have : ∀ i : Fin 9, ((List.range (i.val + 8)).map fun m => eul (i.val + 5) m).sum = fact (i.val + 6) := by decide +kernel
  have := this ⟨c - 6, by omega⟩
  simp only at this
  have e1 : c - 6 + 8 = c + 2 := by omega
  have e2 : c - 6 + 5 = c - 1 := by omega
  have e3 : c - 6 + 6 = c := by omega
  rwa [e1, e2, e3] at this
end Rm

/-! Rm: moves by hand: undone, piles by steps, halves and heaps. -/
namespace Rm
theorem ext_getD {l m : List Nat} (h : l.length = m.length) (e : ∀ i, i < l.length → l.getD i 0 = m.getD i 0) : l = m := by
  refine List.ext_getElem h fun i h1 h2 => ?_
  have := e i h1
  rwa [getD_of_lt h1, getD_of_lt h2] at this
theorem pick_pick {a b os : List Nat} (h : ∀ x ∈ a, x < b.length) : pick a (pick b os) = pick (pick a b) os := by
  unfold pick
  rw [List.map_map]
  refine List.map_congr_left fun i hi => ?_
  exact pick_getD (c := b) (os := os) (h i hi)
/-- the places that the places lead to -/
def invP (c : List Nat) : List Nat := (List.range c.length).map (pos c)
theorem invP_len (c : List Nat) : (invP c).length = c.length := by simp [invP]
theorem invP_get {c : List Nat} {j : Nat} (h : j < c.length) : (invP c).getD j 0 = pos c j := by
  rw [getD_of_lt (by rw [invP_len]; exact h)]
  simp [invP]
theorem isP_inv {n : Nat} {c : List Nat} (h : IsP n c) : IsP n (invP c) := by
  refine isP_of_all (by rw [invP_len, h.1]; exact Nat.le_refl _) fun x hx => ?_
  refine List.mem_map.mpr ⟨c.getD x 0, List.mem_range.mpr ?_, pos_of h.2.1 (by rw [h.1]; exact hx)⟩
  rw [h.1]
  exact h.lt hx
theorem pick_inv {n : Nat} {c : List Nat} (h : IsP n c) : pick c (invP c) = List.range n := by
  refine ext_getD (by rw [pick_length, List.length_range, h.1]) fun i hi => ?_
  rw [pick_length] at hi
  have hn : i < n := by rw [← h.1]; exact hi
  rw [pick_getD hi, invP_get (by rw [h.1]; exact h.lt hn), pos_of h.2.1 hi, getD_of_lt (by rw [List.length_range]; exact hn), List.getElem_range]
theorem inv_pick {n : Nat} {c : List Nat} (h : IsP n c) : pick (invP c) c = List.range n := by
  refine ext_getD (by rw [pick_length, List.length_range, invP_len, h.1]) fun i hi => ?_
  rw [pick_length, invP_len] at hi
  have hn : i < n := by rw [← h.1]; exact hi
  rw [pick_getD (by rw [invP_len]; exact hi), invP_get hi, pos_get (h.mem hn), getD_of_lt (by rw [List.length_range]; exact hn), List.getElem_range]
theorem redo {n : Nat} {c os : List Nat} (h : IsP n c) (ho : os.length = n) : pick c (pick (invP c) os) = os := by
  rw [pick_pick (fun x hx => by rw [invP_len, h.1]; exact h.2.2 x hx), pick_inv h, ← ho, pick_range]
theorem undo {n : Nat} {c os : List Nat} (h : IsP n c) (ho : os.length = n) : pick (invP c) (pick c os) = os := by
  rw [pick_pick (fun x hx => by rw [h.1]; exact (isP_inv h).2.2 x hx), inv_pick h, ← ho, pick_range]
/-- what is filled place by place -/
theorem filled {n : Nat} {c os fs : List Nat} (h : IsP n c) (hl : fs.length = n) (hs : ∀ k, k < n → fs.getD (c.getD k 0) 0 = os.getD k 0) : fs = pick (invP c) os := by
  refine ext_getD (by rw [pick_length, invP_len, h.1, hl]) fun j hj => ?_
  rw [hl] at hj
  have hm := h.mem hj
  have hp := pos_lt hm
  rw [pick_getD (by rw [invP_len, h.1]; exact hj), invP_get (by rw [h.1]; exact hj), ← hs _ (by rw [← h.1]; exact hp), pos_get hm]
/-! ### piles by steps -/
def stepN (k n p : Nat) : Nat := (n + (p - 1 - k)) / p
theorem step_succ {k n p : Nat} (hk : k < p) : stepN k (n + 1) p = stepN k n p + if n % p = k then 1 else 0 := by
  unfold stepN
  have e : n + 1 + (p - 1 - k) = n + (p - 1 - k) + 1 := by omega
  rw [e, Nat.succ_div]
  congr 1
  have hd : p ∣ n + (p - 1 - k) + 1 ↔ n % p = k := by
    have e2 : n + (p - 1 - k) + 1 = n + (p - k) := by omega
    rw [e2]
    constructor
    · intro h
      have h1 := Nat.mod_eq_zero_of_dvd h
      rw [Nat.add_mod] at h1
      have h2 := Nat.mod_lt n (show 0 < p by omega)
      by_cases hk0 : k = 0
      · subst hk0
        rw [Nat.sub_zero, Nat.mod_self, Nat.add_zero, Nat.mod_mod] at h1
        exact h1
      · rw [Nat.mod_eq_of_lt (show p - k < p by omega)] at h1
        by_cases h3 : n % p + (p - k) < p
        · rw [Nat.mod_eq_of_lt h3] at h1
          omega
        · rw [Nat.mod_eq_sub_mod (by omega), Nat.mod_eq_of_lt (by omega)] at h1
          omega
    · intro h
      refine Nat.dvd_of_mod_eq_zero ?_
      rw [Nat.add_mod, h]
      by_cases hk0 : k = 0
      · subst hk0
        simp
      · rw [Nat.mod_eq_of_lt (show p - k < p by omega)]
        have : k + (p - k) = p := by omega
        rw [this, Nat.mod_self]
  by_cases h : n % p = k
  · rw [if_pos (hd.mpr h), if_pos h]
  · rw [if_neg (fun z => h (hd.mp z)), if_neg h]
theorem step_val {k p : Nat} (hk : k < p) : ∀ n, n % p = k → k + stepN k n p * p = n := by
  intro n h
  have e : n = p * (n / p) + k := by rw [← h]; exact (Nat.div_add_mod n p).symm
  unfold stepN
  have e2 : n + (p - 1 - k) = p * (n / p) + (p - 1) := by omega
  rw [e2, Nat.mul_add_div (by omega), Nat.div_eq_of_lt (show p - 1 < p by omega), Nat.add_zero, Nat.mul_comm, Nat.add_comm]
  exact e.symm
theorem step_filter {k p : Nat} (hk : k < p) : ∀ n, (List.range (stepN k n p)).map (fun i => k + i * p) = (List.range n).filter (fun i => i % p == k)
  | 0 => by
    have : stepN k 0 p = 0 := by unfold stepN; exact Nat.div_eq_of_lt (by omega)
    rw [this]
    rfl
  | n + 1 => by
    rw [step_succ hk, List.range_succ, List.filter_append, ← step_filter hk n]
    by_cases h : n % p = k
    · rw [if_pos h, List.range_succ, List.map_append, List.filter_cons, if_pos (by simp [h])]
      congr 1
      show [k + stepN k n p * p] = _
      rw [step_val hk n h]
      rfl
    · rw [if_neg h, Nat.add_zero, List.filter_cons, if_neg (by simp [h])]
      simp
/-! ### by hand -/
theorem cut_hand {k : Nat} {os : List Nat} (h : k ≤ os.length) : os.drop k ++ os.take k = pick (cutCame k os.length) os := by
  unfold cutCame
  have e : List.range k = (List.range os.length).take k := by rw [List.take_range, Nat.min_eq_left h]
  have hp := pick_range os
  rw [e]
  unfold pick at hp ⊢
  rw [List.map_append, List.map_drop, List.map_take, hp]
theorem turn_hand (os : List Nat) : os.reverse = pick (List.range os.length).reverse os := by
  have hp := pick_range os
  unfold pick at hp ⊢
  rw [List.map_reverse, hp]
theorem underGo_map {α β : Type} (g : α → β) : ∀ (f : Nat) (l d : List α), underGo f (l.map g) (d.map g) = (underGo f l d).map g
  | 0, _, _ => rfl
  | _ + 1, [], _ => rfl
  | f + 1, x :: r, d => by
    show underGo f ((r.map g).drop 1 ++ (r.map g).take 1) (g x :: d.map g) = _
    rw [← List.map_drop, ← List.map_take, ← List.map_append]
    exact underGo_map g f _ (x :: d)
theorem under_hand (os : List Nat) : underGo os.length os [] = pick (underCame os.length) os := by
  have h := underGo_map (fun i => os.getD i 0) os.length (List.range os.length) []
  have hp := pick_range os
  unfold pick at hp
  rw [hp] at h
  exact h
theorem pick_append (a b os : List Nat) : pick (a ++ b) os = pick a os ++ pick b os := List.map_append
theorem pick_flat (g : Nat → List Nat) (os : List Nat) : ∀ l : List Nat, pick (l.flatMap g) os = l.flatMap fun k => pick (g k) os
  | [] => rfl
  | a :: l => by rw [List.flatMap_cons, pick_append, pick_flat g os l, List.flatMap_cons]
/-- the heap j behind i cards -/
def heapF (os : List Nat) (p i j : Nat) : List Nat := pick (dealPile p i j) os
theorem heap_zero (os : List Nat) (p j : Nat) : heapF os p 0 j = [] := rfl
theorem heap_succ (os : List Nat) (p i j : Nat) : heapF os p (i + 1) j = if i % p = j then os.getD i 0 :: heapF os p i j else heapF os p i j := by
  unfold heapF dealPile
  rw [List.range_succ, List.filter_append, List.filter_cons]
  by_cases h : i % p = j
  · rw [if_pos (by simp [h]), if_pos h]
    simp [pick]
  · rw [if_neg (by simp [h]), if_neg h]
    simp
theorem deal_hand (os : List Nat) (p : Nat) : ((List.range p).map (heapF os p os.length)).reverse.flatten = pick (dealCame p os.length) os := by
  unfold dealCame
  rw [pick_flat, ← List.map_reverse, List.flatMap_def]
  rfl
/-- a and b by turns -/
def altW (f h : Nat) : List Bool := (List.replicate h (if f = 1 then [false, true] else [true, false])).flatten
theorem altW_succ (f h : Nat) : altW f (h + 1) = (if f = 1 then [false, true] else [true, false]) ++ altW f h := by
  unfold altW
  rw [List.replicate_succ, List.flatten_cons]
theorem altW_len (f : Nat) : ∀ h, (altW f h).length = 2 * h
  | 0 => rfl
  | h + 1 => by
    rw [altW_succ, List.length_append, altW_len f h]
    split <;> simp <;> omega
theorem altW_count (f : Nat) : ∀ h, (altW f h).count true = h
  | 0 => rfl
  | h + 1 => by
    rw [altW_succ, List.count_append, altW_count f h]
    split <;> simp <;> omega
theorem altW_go (f : Nat) : ∀ h u l, riffGo (altW f h) u l = (List.range h).flatMap fun k => if f = 1 then [l + k, u + k] else [u + k, l + k]
  | 0, _, _ => rfl
  | h + 1, u, l => by
    rw [altW_succ, List.range_succ_eq_map, List.flatMap_cons, List.flatMap_map]
    by_cases e : f = 1
    · rw [if_pos e]
      show l :: u :: riffGo (altW f h) (u + 1) (l + 1) = _
      rw [altW_go f h, if_pos e]
      simp only [if_pos e, Nat.add_zero, List.cons_append, List.nil_append]
      congr 2
      refine congrArg (fun g => List.flatMap g _) (funext fun k => ?_)
      rw [Nat.succ_eq_add_one, Nat.add_right_comm l 1 k, Nat.add_right_comm u 1 k]
      rfl
    · rw [if_neg e]
      show u :: l :: riffGo (altW f h) (u + 1) (l + 1) = _
      rw [altW_go f h, if_neg e]
      simp only [if_neg e, Nat.add_zero, List.cons_append, List.nil_append]
      congr 2
      refine congrArg (fun g => List.flatMap g _) (funext fun k => ?_)
      rw [Nat.succ_eq_add_one, Nat.add_right_comm l 1 k, Nat.add_right_comm u 1 k]
      rfl
theorem alt_came {f n : Nat} (h : n % 2 = 0) : riffCame (altW f (n / 2)) = weaveCame f n := by
  unfold riffCame weaveCame
  rw [altW_count, altW_go]
  refine congrArg (fun g => List.flatMap g _) (funext fun k => ?_)
  unfold weavePair
  simp only [Nat.zero_add]
end Rm

set_option Elab.async false
set_option linter.all false
set_option maxRecDepth 100000
set_option maxHeartbeats 4000000
/-! Rf, part 1: readings step by step, heaps by letters. -/
namespace Rf
open PySem PySem.Spec L2

/-! ### heaps -/
theorem get_same {H H' : Hp} {a : Addr} {o : HO} (e : Same H H') (h : H a = some o) : H' a = some o := e a o h
theorem same_upd {H : Hp} {p : Addr} {o : HO} (h : H p = none) : Same H (upd H p o) := fun b x e => by
  rw [upd_ne (ne_of_none e h)]
  exact e
/-- all but l stands as it was -/
def But (l : Addr) (H H' : Hp) : Prop := ∀ a o, a ≠ l → H a = some o → H' a = some o
theorem but_upd {H : Hp} {l : Addr} {o : HO} : But l H (upd H l o) := fun a x n e => by
  rw [upd_ne n]
  exact e
theorem get_but {H H' : Hp} {l a : Addr} {o : HO} (e : But l H H') (n : a ≠ l) (h : H a = some o) : H' a = some o := e a o n h
theorem same_of_but {H0 H H' : Hp} {l : Addr} (hl : H0 l = none) (s : Same H0 H) (e : But l H H') : Same H0 H' := fun a o h => e a o (ne_of_none h hl) (s a o h)
theorem rd_but {H H' : Hp} {l a : Addr} {u : HO} (e : But l H H') (n : a ≠ l) (h : Rd H a u) : Rd H' a u := by
  rcases h with h | ⟨o, h⟩
  · exact .inl (e _ _ n h)
  · exact .inr ⟨o, e _ _ n h⟩
theorem rd_same {H H' : Hp} {a : Addr} {u : HO} (e : Same H H') (h : Rd H a u) : Rd H' a u := by
  rcases h with h | ⟨o, h⟩
  · exact .inl (e _ _ h)
  · exact .inr ⟨o, e _ _ h⟩
section
variable {K : PySem.W.Frag} {H H' : Hp} {a l p : Addr} {xs : List V}
theorem sl_of (h : H a = some (.lst xs)) : SqL K H a xs := .inl (.inl h)
theorem st_of (h : H a = some (.tup xs)) : SqT K H a xs := .inl (.inl h)
theorem sl_same (e : Same H H') (h : SqL K H a xs) : SqL K H' a xs := by
  rcases h with h | h
  · exact .inl (rd_same e h)
  · exact .inr h
theorem st_same (e : Same H H') (h : SqT K H a xs) : SqT K H' a xs := by
  rcases h with h | h
  · exact .inl (rd_same e h)
  · exact .inr h
theorem sl_but (e : But l H H') (n : a ≠ l) (h : SqL K H a xs) : SqL K H' a xs := by
  rcases h with h | h
  · exact .inl (rd_but e n h)
  · exact .inr h
theorem st_but (e : But l H H') (n : a ≠ l) (h : SqT K H a xs) : SqT K H' a xs := by
  rcases h with h | h
  · exact .inl (rd_but e n h)
  · exact .inr h
end
theorem ne_old {H : Hp} {a b : Addr} {o : HO} (h : H a = some o) (h' : H b = none) : a ≠ b := ne_of_none h h'
theorem ne_new {H : Hp} {a b : Addr} {o : HO} (h : H a = some o) (h' : H b = none) : b ≠ a := (ne_of_none h h').symm
theorem none_same {H H' : Hp} {a : Addr} (e : Same H H') (h : H' a = none) : H a = none := e.free h
theorem same_tr {H H1 H2 : Hp} (e2 : Same H1 H2) (e1 : Same H H1) : Same H H2 := e1.trans e2
theorem same_bt {H0 H H' : Hp} {l : Addr} (e : But l H H') (hl : H0 l = none) (s : Same H0 H) : Same H0 H' := same_of_but hl s e
theorem none_of_same {H H' : Hp} {a : Addr} (h : H' a = none) (e : Same H H') : H a = none := e.free h
theorem sz {n : Nat} (h : n ≤ 1000000) : n ≤ sizeLine := Nat.le_trans h (by decide)
theorem sz' {n : Nat} (h : n < 1000000) : n < sizeLine := Nat.lt_of_lt_of_le h (by decide)

/-! ### steps -/
section
variable {K : PySem.W.Frag} {σ σ' : L2.St} {H H1 H2 : Hp} {Q : VK} {D : Ends} {v x y z : V} {ta tb tc te : TE} {tr : TA} {tt tu : TT} {ts tz tw : TS} {g : TG} {gs : TGs} {r r' : R2} {i j : Nat} {E : XK} {a b l p C dx : Addr} {xs ys : List V} {sp : Sp} {vs : List V} {bq : Bool → Hp → Prop} {lq : List V → Hp → Prop}
/-- a new object -/
def kNew (o : HO) (Q : VK) (H : Hp) : Prop := ∀ p, H p = none → Q (.ref p) (upd H p o)
theorem c_new {o : HO} (k : ∀ p H', H p = none → Same H H' → H' p = some o → Q (.ref p) H') : kNew o Q H := fun p hp => k p _ hp (same_upd hp) upd_same
theorem c_var (h : σ[i]? = some (some v)) (k : Q v H) : tVar i σ H Q := ⟨v, h, k⟩
theorem c_c (k : Q v H) : tC v σ H Q := k
theorem c_op (k : ta σ H fun x H1 => tb σ H1 fun y H2 => r x y H2 Q) : tOp r ta tb σ H Q := k
theorem c_un {u : V → Hp → VK → Prop} (k : ta σ H fun x H1 => u x H1 Q) : tUn u ta σ H Q := k
theorem c_i0 {f : Int → Int → V} {m n : Int} (k : Q (f m n) H) : rI0 f (.int m) (.int n) H Q := ⟨m, n, rfl, rfl, k⟩
theorem c_iC {f : Int → Int → V} {c : Int → Int → Prop} {m n : Int} (h : c m n) (k : Q (f m n) H) : rI c f (.int m) (.int n) H Q := ⟨m, n, rfl, rfl, h, k⟩
theorem c_iU {f : Int → V} {m : Int} (k : Q (f m) H) : rU f (.int m) H Q := ⟨m, rfl, k⟩
/-- a bool, as a test -/
def kB (q : Bool → Hp → Prop) : VK := fun x H' => ∃ k, x = .bl k ∧ q k H'
theorem c_kB {c : Bool} (k : bq c H) : kB bq (.bl c) H := ⟨c, rfl, k⟩
theorem c_tTest (k : te σ H (kB bq)) : tTest te σ H bq := k
theorem c_tB (k : te σ H (kB bq)) : tB te σ H bq := k
theorem c_eqI {m n : Int} (k : Q (.bl (decide (m = n))) H) : rEq (.int m) (.int n) H Q := ⟨rfl, by
  have e : decide (V.int m = V.int n) = decide (m = n) := by by_cases h : m = n <;> simp [h]
  rw [e]
  exact k⟩
theorem c_neI {m n : Int} (k : Q (.bl (!decide (m = n))) H) : rNe (.int m) (.int n) H Q := ⟨rfl, by
  have e : decide (V.int m = V.int n) = decide (m = n) := by by_cases h : m = n <;> simp [h]
  rw [e]
  exact k⟩
theorem c_eqS {m n : Str} (k : Q (.bl (decide (m = n))) H) : rEq (.str m) (.str n) H Q := ⟨rfl, by
  have e : decide (V.str m = V.str n) = decide (m = n) := by by_cases h : m = n <;> simp [h]
  rw [e]
  exact k⟩
theorem c_neS {m n : Str} (k : Q (.bl (!decide (m = n))) H) : rNe (.str m) (.str n) H Q := ⟨rfl, by
  have e : decide (V.str m = V.str n) = decide (m = n) := by by_cases h : m = n <;> simp [h]
  rw [e]
  exact k⟩
theorem c_eqB {m n : Bool} (k : Q (.bl (decide (m = n))) H) : rEq (.bl m) (.bl n) H Q := ⟨rfl, by
  have e : decide (V.bl m = V.bl n) = decide (m = n) := by by_cases h : m = n <;> simp [h]
  rw [e]
  exact k⟩
theorem c_neB {m n : Bool} (k : Q (.bl (!decide (m = n))) H) : rNe (.bl m) (.bl n) H Q := ⟨rfl, by
  have e : decide (V.bl m = V.bl n) = decide (m = n) := by by_cases h : m = n <;> simp [h]
  rw [e]
  exact k⟩
/-- a chain of two, behind the first answer -/
def kCh (r' : R2) (tc : TE) (σ : L2.St) (y : V) (Q : VK) : VK := fun z H3 => ∃ k, z = .bl k ∧ (if k = true then tc σ H3 fun w' H4 => r' y w' H4 Q else Q (.bl false) H3)
theorem c_chain (k : ta σ H fun x H1 => tb σ H1 fun y H2 => r x y H2 (kCh r' tc σ y Q)) : tChain r r' ta tb tc σ H Q := k
theorem c_kCh {c : Bool} (h1 : c = true → tc σ H fun w' H4 => r' y w' H4 Q) (h0 : c = false → Q (.bl false) H) : kCh r' tc σ y Q (.bl c) H := ⟨c, rfl, by
  cases c with
  | true => exact h1 rfl
  | false => exact h0 rfl⟩
/-- lo <= n <= hi, all ints that cost nothing -/
theorem c_chLe {lo n hi : Int} (h : tc σ H fun w H4 => H4 = H ∧ w = .int hi) (k : Q (.bl (decide (lo ≤ n ∧ n ≤ hi))) H) (mono : ∀ R R' : VK, (∀ v H, R v H → R' v H) → tc σ H R → tc σ H R') :
    kCh (rI0 fun i j => .bl (decide (i ≤ j))) tc σ (.int n) Q (.bl (decide (lo ≤ n))) H := by
  refine c_kCh (fun h1 => ?_) (fun h0 => ?_)
  · refine mono _ _ (fun v H' hv => ?_) h
    obtain ⟨rfl, rfl⟩ := hv
    refine c_i0 ?_
    have e : decide (lo ≤ n ∧ n ≤ hi) = decide (n ≤ hi) := by simp [of_decide_eq_true h1]
    rw [← e]
    exact k
  · have e : decide (lo ≤ n ∧ n ≤ hi) = false := by simp [of_decide_eq_false h0]
    rw [← e]
    exact k
/-! tests -/
theorem c_and (k : tt σ H fun c H1 => if c = true then tu σ H1 bq else bq false H1) : tAnd tt tu σ H bq := k
theorem c_or (k : tt σ H fun c H1 => if c = true then bq true H1 else tu σ H1 bq) : tOr tt tu σ H bq := k
theorem c_not (k : tt σ H fun c H1 => bq (!c) H1) : tNot tt σ H bq := k
theorem c_andV (k : ta σ H (kB fun c H1 => if c = true then tb σ H1 Q else Q (.bl false) H1)) : tAndV ta tb σ H Q := k
theorem c_orV (k : ta σ H (kB fun c H1 => if c = true then Q (.bl true) H1 else tb σ H1 Q)) : tOrV ta tb σ H Q := k
theorem c_notV (k : ta σ H (kB fun c H1 => Q (.bl (!c)) H1)) : tNotV ta σ H Q := k
theorem c_ifE (k : tt σ H fun c H1 => if c = true then ta σ H1 Q else tb σ H1 Q) : tIf tt ta tb σ H Q := k
theorem c_yes : tYes σ H bq ↔ bq true H := Iff.rfl
theorem c_tYes (k : bq true H) : tYes σ H bq := k
/-- known answers -/
theorem if_t {c : Bool} {A B : Prop} (h : c = true) (k : A) : if c = true then A else B := by rw [if_pos h]; exact k
theorem if_f {c : Bool} {A B : Prop} (h : c = false) (k : B) : if c = true then A else B := by rw [h, if_neg Bool.false_ne_true]; exact k
theorem if_2 {c : Bool} {A B : Prop} (h1 : c = true → A) (h2 : c = false → B) : if c = true then A else B := by
  cases c with
  | true => exact if_t rfl (h1 rfl)
  | false => exact if_f rfl (h2 rfl)
theorem if_d {q : Prop} [Decidable q] {A B : Prop} (h1 : q → A) (h2 : ¬q → B) : if (decide q) = true then A else B := if_2 (fun h => h1 (of_decide_eq_true h)) fun h => h2 (of_decide_eq_false h)
theorem if_n {q : Prop} [Decidable q] {A B : Prop} (h1 : ¬q → A) (h2 : q → B) : if (!decide q) = true then A else B := if_2 (fun h => h1 (by simpa using h)) fun h => h2 (by simpa using h)
/-! arguments, displays -/
theorem c_nil (k : lq [] H) : tNil σ H lq := k
theorem c_cons (k : ta σ H fun x H1 => tr σ H1 fun xs H2 => lq (x :: xs) H2) : tCons ta tr σ H lq := k
def kTup (Q : VK) : List V → Hp → Prop := fun xs H1 => xs.length ≤ sizeLine ∧ kNew (.tup xs) Q H1
def kLst (Q : VK) : List V → Hp → Prop := fun xs H1 => xs.length ≤ sizeLine ∧ kNew (.lst xs) Q H1
theorem c_tup (k : tr σ H (kTup Q)) : tTup tr σ H Q := k
theorem c_lst (k : tr σ H (kLst Q)) : tLst tr σ H Q := k
theorem c_kTup (h : xs.length ≤ 1000) (k : ∀ p H', H p = none → Same H H' → H' p = some (.tup xs) → Q (.ref p) H') : kTup Q xs H := ⟨sz (Nat.le_trans h (by decide)), c_new k⟩
theorem c_kLst (h : xs.length ≤ 1000) (k : ∀ p H', H p = none → Same H H' → H' p = some (.lst xs) → Q (.ref p) H') : kLst Q xs H := ⟨sz (Nat.le_trans h (by decide)), c_new k⟩
/-! lists, tuples, texts -/
theorem c_ixL {n : Int} (h : SqL K H a xs) (ha : atI xs n = some v) (k : Q v H) : rIxL K (.ref a) (.int n) H Q := ⟨a, xs, n, v, rfl, rfl, h, ha, k⟩
theorem c_ixT {n : Int} (h : SqT K H a xs) (ha : atI xs n = some v) (k : Q v H) : rIxT K (.ref a) (.int n) H Q := ⟨a, xs, n, v, rfl, rfl, h, ha, k⟩
theorem c_ixS {w : Str} {n : Int} {c : Nat} (h : w.length ≤ 1000000) (ha : atI w.cps.toList n = some c) (k : Q (.str ⟨#[c]⟩) H) : rIxS (.str w) (.int n) H Q := ⟨w, n, c, rfl, rfl, sz h, ha, k⟩
theorem c_cat (h : H a = some (.lst xs)) (h' : H b = some (.lst ys)) (hz : xs.length + ys.length ≤ 1000000) (k : ∀ p H', H p = none → Same H H' → H' p = some (.lst (xs ++ ys)) → Q (.ref p) H') : rCat (.ref a) (.ref b) H Q :=
  ⟨a, b, xs, ys, rfl, rfl, h, h', sz hz, c_new k⟩
def rAddS : R2 := fun x y H Q => ∃ i j, x = .str i ∧ y = .str j ∧ i.length + j.length ≤ sizeLine ∧ Q (.str (i ++ j)) H
theorem op_addS {X : Cx} : OpR X (binaryOp .Add) rAddS := op_add_str
theorem iop_addS {X : Cx} : OpR X (inplaceOp .Add) rAddS := iop_add_str
theorem c_addS {m n : Str} (h : m.length + n.length ≤ 1000000) (k : Q (.str (m ++ n)) H) : rAddS (.str m) (.str n) H Q := ⟨m, n, rfl, rfl, sz h, k⟩
theorem c_sl {rs : V → Option Int → Option Int → Hp → VK → Prop} {tl th : TO} (k : te σ H fun x H1 => tl σ H1 fun lo H2 => th σ H2 fun hi H3 => rs x lo hi H3 Q) : tSl rs te tl th σ H Q := k
theorem c_noP {q : Option Int → Hp → Prop} (k : q none H) : tNoPart σ H q := k
def kPart (q : Option Int → Hp → Prop) : VK := fun x H1 => ∃ i, x = .int i ∧ q (some i) H1
theorem c_part {q : Option Int → Hp → Prop} (k : te σ H (kPart q)) : tPart te σ H q := k
theorem c_kPart {n : Int} {q : Option Int → Hp → Prop} (k : q (some n) H) : kPart q (.int n) H := ⟨n, rfl, k⟩
theorem c_slL {lo hi : Option Int} (h : SqL K H a xs) (k : ∀ p H', H p = none → Same H H' → H' p = some (.lst (cutV xs lo hi)) → Q (.ref p) H') : rSlL K (.ref a) lo hi H Q := ⟨a, xs, rfl, h, c_new k⟩
theorem c_slX {w : Str} {lo hi : Option Int} (h : w.length ≤ 1000000) (k : Q (.str (Txt.slice w lo hi)) H) : C8.rSlX (.str w) lo hi H Q := ⟨w, rfl, sz h, k⟩
def kRev (K : PySem.W.Frag) (Q : VK) : VK := fun x H1 => ∃ a xs, x = .ref a ∧ SqL K H1 a xs ∧ kNew (.lst xs.reverse) Q H1
theorem c_rev (k : te σ H (kRev K Q)) : tRevL K te σ H Q := k
theorem c_kRev (h : SqL K H a xs) (k : ∀ p H', H p = none → Same H H' → H' p = some (.lst xs.reverse) → Q (.ref p) H') : kRev K Q (.ref a) H := ⟨a, xs, rfl, h, c_new k⟩
/-! built-ins -/
theorem c_CB {rc : List V → Hp → VK → Prop} (k : tr σ H fun us H1 => rc us H1 Q) : tCB rc tr σ H Q := k
def rLenQ (K : PySem.W.Frag) : List V → Hp → VK → Prop := fun xs H Q => ∃ p ys, xs = [.ref p] ∧ (SqL K H p ys ∨ SqT K H p ys) ∧ Q (.int ys.length) H
theorem call_lenQ {X : Cx} : CallR X (.builtin "len") (rLenQ X.K) := call_len_seq
theorem c_lenL (h : SqL K H a xs) (k : Q (.int (xs.length : Nat)) H) : rLenQ K [.ref a] H Q := ⟨a, xs, rfl, .inl h, k⟩
theorem c_lenM {α : Type} {f : α → V} {ns : List α} (h : SqL K H a (ns.map f)) (k : Q (.int (ns.length : Nat)) H) : rLenQ K [.ref a] H Q := ⟨a, _, rfl, .inl h, by rw [List.length_map]; exact k⟩
def rLenS : List V → Hp → VK → Prop := fun xs H Q => ∃ z, xs = [.str z] ∧ z.length ≤ sizeLine ∧ Q (.int z.length) H
theorem call_lenS {X : Cx} : CallR X (.builtin "len") rLenS := call_len_str
theorem c_lenS {w : Str} (h : w.length ≤ 1000000) (k : Q (.int (w.length : Nat)) H) : rLenS [.str w] H Q := ⟨w, rfl, sz h, k⟩
def rListOf (K : PySem.W.Frag) : List V → Hp → VK → Prop := fun xs H Q => ∃ p ys, xs = [.ref p] ∧ (SqL K H p ys ∨ SqT K H p ys) ∧ kNew (.lst ys) Q H
theorem call_listOf {X : Cx} : CallR X (.type "list") (rListOf X.K) := call_list_of
theorem c_listOf (h : SqL K H a xs) (k : ∀ p H', H p = none → Same H H' → H' p = some (.lst xs) → Q (.ref p) H') : rListOf K [.ref a] H Q := ⟨a, xs, rfl, .inl h, c_new k⟩
def rMin2 : List V → Hp → VK → Prop := fun xs H Q => ∃ i j, xs = [.int i, .int j] ∧ Q (.int (if j < i then j else i)) H
theorem call_min2' {X : Cx} (hc : X.calm = true) : CallR X (.builtin "min") rMin2 := call_min2 hc
theorem c_min2 {m n : Int} (k : Q (.int (min m n)) H) : rMin2 [.int m, .int n] H Q := ⟨m, n, rfl, by
  have e : (if n < m then n else m) = min m n := by omega
  rw [e]
  exact k⟩
def rStrI : List V → Hp → VK → Prop := fun xs H Q => ∃ i, xs = [.int i] ∧ i.natAbs.log2 < 1920 ∧ Q (.str (toString i)) H
theorem call_strI {X : Cx} : CallR X (.type "str") rStrI := call_str_int
theorem c_strI {n : Int} (h : n.natAbs < 2 ^ 1000) (k : Q (.str (toString n)) H) : rStrI [.int n] H Q := ⟨n, rfl, by
  by_cases e : n.natAbs = 0
  · rw [e]; decide
  · exact Nat.lt_trans ((Nat.log2_lt e).mpr h) (by decide), k⟩
def rIntS : List V → Hp → VK → Prop := fun xs H Q => ∃ a n, xs = [.str a] ∧ PySem.intText? a = some n ∧ a.length ≤ 640 ∧ Q (.int n) H
theorem call_intS {X : Cx} : CallR X (.type "int") rIntS := call_int_str
theorem c_intS {w : Str} {n : Int} (h : PySem.intText? w = some n) (hl : w.length ≤ 640) (k : Q (.int n) H) : rIntS [.str w] H Q := ⟨w, n, rfl, h, hl, k⟩
theorem c_sum {ns : List Int} (h : SqL K H a (ns.map V.int)) (k : Q (.int ns.sum) H) : rSum K [.ref a] H Q := ⟨a, ns, rfl, h, k⟩
theorem c_any {bs : List Bool} (h : SqL K H a (bs.map V.bl)) (k : Q (.bl (bs.any id)) H) : rAny K [.ref a] H Q := ⟨a, bs, rfl, h, k⟩
theorem c_all {bs : List Bool} (h : SqL K H a (bs.map V.bl)) (k : Q (.bl (bs.all id)) H) : rAll K [.ref a] H Q := ⟨a, bs, rfl, h, k⟩
theorem c_isi {c : V} {t u : Value} {q : Bool} (h1 : ClsV c u) (h2 : TyX K H x t) (h3 : PySem.W.kitOne K t u = some q) (k : Q (.bl q) H) : rIsi K [x, c] H Q := ⟨x, c, t, u, q, rfl, h1, h2, h3, k⟩
/-- isinstance of a value of a built-in class, a built-in class asked -/
theorem c_isiT {n : String} {t : String} {q : Bool} (h2 : TyX K H x (.type t)) (h3 : kitB t n = some q) (k : Q (.bl q) H) : rIsi K [x, .ty n] H Q := ⟨x, .ty n, .type t, .type n, q, rfl, .ty n, h2, kit_ty h3, k⟩
def kLenSet (K : PySem.W.Frag) (Q : VK) : VK := fun x H1 => ∃ (l : Addr) (ns : List Int), x = .ref l ∧ SqL K H1 l (ns.map V.int) ∧ ns.Nodup ∧ ns.length ≤ 4000 ∧ Q (.int (ns.length : Nat)) H1
theorem c_lenSet (k : te σ H (kLenSet K Q)) : RZ.tLenSetI K te σ H Q := k
theorem c_kLenSet {ns : List Int} (h : SqL K H a (ns.map V.int)) (nd : ns.Nodup) (hl : ns.length ≤ 4000) (k : Q (.int (ns.length : Nat)) H) : kLenSet K Q (.ref a) H := ⟨a, ns, rfl, h, nd, hl, k⟩
theorem c_kLenSetN {ns : List Nat} (h : SqL K H a (ns.map fun (k : Nat) => V.int (k : Int))) (nd : ns.Nodup) (hl : ns.length ≤ 4000) (k : Q (.int (ns.length : Nat)) H) : kLenSet K Q (.ref a) H := by
  refine c_kLenSet (ns := ns.map fun (k : Nat) => (k : Int)) (by rw [List.map_map]; exact h) ?_ (by rw [List.length_map]; exact hl) (by rw [List.length_map]; exact k)
  refine List.Pairwise.map _ (fun a b hab => ?_) nd
  intro e
  exact hab (by omega)
/-! list(range(..)) -/
def kRg (Q : VK) : Int → Int → Hp → Prop := fun a b H1 => RgOk a b ∧ kNew (.lst (rgV a b)) Q H1
theorem c_listRg {t : L2.St → Hp → (Int → Int → Hp → Prop) → Prop} (k : t σ H (kRg Q)) : tLstRg t σ H Q := k
def kRg1 (q : Int → Int → Hp → Prop) : VK := fun x H1 => ∃ n, x = .int n ∧ q 0 n H1
theorem c_rg1 {q : Int → Int → Hp → Prop} (k : ta σ H (kRg1 q)) : tRg1 ta σ H q := k
theorem c_kRg1 {q : Int → Int → Hp → Prop} {n : Int} (k : q 0 n H) : kRg1 q (.int n) H := ⟨n, rfl, k⟩
def kRg2 (q : Int → Int → Hp → Prop) (x : V) : VK := fun y H2 => ∃ i j, x = .int i ∧ y = .int j ∧ q i j H2
theorem c_rg2 {q : Int → Int → Hp → Prop} (k : ta σ H fun x H1 => tb σ H1 (kRg2 q x)) : tRg2 ta tb σ H q := k
theorem c_kRg2 {q : Int → Int → Hp → Prop} {m n : Int} (k : q m n H) : kRg2 q (.int m) (.int n) H := ⟨m, n, rfl, rfl, k⟩
def rgI (a b : Int) : List Int := (List.range (b - a).toNat).map fun i => a + (i : Nat)
theorem rgV_rgI (a b : Int) : rgV a b = (rgI a b).map V.int := by unfold rgV rgI; rw [List.map_map]; rfl
theorem c_kRg {m n : Int} (h1 : -1000000 ≤ m ∧ m ≤ 1000000) (h2 : -1000000 ≤ n ∧ n ≤ 1000000) (k : ∀ p H', H p = none → Same H H' → H' p = some (.lst ((rgI m n).map V.int)) → Q (.ref p) H') : kRg Q m n H :=
  ⟨⟨by omega, by omega, by omega, by omega, by omega⟩, c_new (by rw [rgV_rgI]; exact k)⟩
/-! calls of one's own -/
theorem c_call (k : tr σ H fun us H1 => sp us H1 Q E) : tCall sp [] E tr σ H Q := by
  have e : (fun (us : List V) H1 => sp (us ++ []) H1 Q E) = fun us H1 => sp us H1 Q E := by
    funext us H1
    rw [List.append_nil]
  show tr σ H (fun us H1 => sp (us ++ []) H1 Q E)
  rw [e]
  exact k
def kMeth (C : Addr) (m : Str) (sp : Sp) (E : XK) (tr : TA) (σ : L2.St) (Q : VK) : VK := fun x H1 => ∃ a dx fs, x = .ref a ∧ H1 a = some (.ins C dx fs) ∧ fs.lookup m = none ∧ tr σ H1 fun us H2 => sp (x :: us) H2 Q E
theorem c_meth {m : Str} (k : ta σ H (kMeth C m sp E tr σ Q)) : tMeth C m sp [] E ta tr σ H Q := by
  have e : kMeth C m sp E tr σ Q = fun x H1 => ∃ a dx fs, x = .ref a ∧ H1 a = some (.ins C dx fs) ∧ fs.lookup m = none ∧ tr σ H1 fun us H2 => sp (x :: (us ++ [])) H2 Q E := by
    unfold kMeth
    simp only [List.append_nil]
  show ta σ H (fun x H1 => ∃ a dx fs, x = .ref a ∧ H1 a = some (.ins C dx fs) ∧ fs.lookup m = none ∧ tr σ H1 fun us H2 => sp (x :: (us ++ [])) H2 Q E)
  rw [← e]
  exact k
theorem c_kMeth {m : Str} {fs : List (Str × V)} (h : H a = some (.ins C dx fs)) (hl : fs.lookup m = none) (k : tr σ H fun us H2 => sp (.ref a :: us) H2 Q E) : kMeth C m sp E tr σ Q (.ref a) H := ⟨a, dx, fs, rfl, h, hl, k⟩
def kMake (C : Addr) (sp : Sp) (E : XK) (Q : VK) : List V → Hp → Prop := fun us H1 => ∀ x dx, H1 x = none → H1 dx = none → dx ≠ x → sp (.ref x :: us) (upd (upd H1 dx (.own x)) x (.ins C dx [])) (fun v H2 => v = .non ∧ Q (.ref x) H2) E
theorem c_make (k : tr σ H (kMake C sp E Q)) : tMake C sp [] E tr σ H Q := by
  have e : kMake C sp E Q = fun us H1 => ∀ x dx, H1 x = none → H1 dx = none → dx ≠ x → sp (.ref x :: (us ++ [])) (upd (upd H1 dx (.own x)) x (.ins C dx [])) (fun v H2 => v = .non ∧ Q (.ref x) H2) E := by
    unfold kMake
    simp only [List.append_nil]
  show tr σ H (fun us H1 => ∀ x dx, H1 x = none → H1 dx = none → dx ≠ x → sp (.ref x :: (us ++ [])) (upd (upd H1 dx (.own x)) x (.ins C dx [])) (fun v H2 => v = .non ∧ Q (.ref x) H2) E)
  rw [← e]
  exact k
def kFld (K : PySem.W.Frag) (f : Str) (Q : VK) : VK := fun x H1 => ∃ a C dx fs v, x = .ref a ∧ H1 a = some (.ins C dx fs) ∧ Cls K C ∧ NoAttr K C f ∧ fs.lookup f = some v ∧ Q v H1
theorem c_fld {f : Str} (k : ta σ H (kFld K f Q)) : tFld K ta f σ H Q := k
theorem c_kFld {f : Str} {fs : List (Str × V)} (h : H a = some (.ins C dx fs)) (hc : Cls K C) (hn : NoAttr K C f) (hl : fs.lookup f = some v) (k : Q v H) : kFld K f Q (.ref a) H := ⟨a, C, dx, fs, v, rfl, h, hc, hn, hl, k⟩
/-! methods of built-in types -/
def kBM (K : PySem.W.Frag) (T : String) (rm : V → List V → Hp → VK → Prop) (tr : TA) (σ : L2.St) (Q : VK) : VK := fun x H1 => tyV K T x H1 ∧ tr σ H1 fun us H2 => rm x us H2 Q
theorem c_bm {T : String} {rm : V → List V → Hp → VK → Prop} (k : ta σ H (kBM K T rm tr σ Q)) : tBM K T rm ta tr σ H Q := k
def kBM0 (K : PySem.W.Frag) (T : String) (rm : V → List V → Hp → VK → Prop) (Q : VK) : VK := fun x H1 => tyV K T x H1 ∧ rm x [] H1 Q
theorem c_bm0 {T : String} {rm : V → List V → Hp → VK → Prop} (k : ta σ H (kBM0 K T rm Q)) : tBM0 K T rm ta σ H Q := k
theorem c_kBMl {rm : V → List V → Hp → VK → Prop} (h : SqL K H a xs) (k : tr σ H fun us H2 => rm (.ref a) us H2 Q) : kBM K "list" rm tr σ Q (.ref a) H := ⟨.inl ⟨rfl, xs, h⟩, k⟩
theorem c_kBM0l {rm : V → List V → Hp → VK → Prop} (h : SqL K H a xs) (k : rm (.ref a) [] H Q) : kBM0 K "list" rm Q (.ref a) H := ⟨.inl ⟨rfl, xs, h⟩, k⟩
theorem c_kBMs {w : Str} {rm : V → List V → Hp → VK → Prop} (k : tr σ H fun us H2 => rm (.str w) us H2 Q) : kBM K "str" rm tr σ Q (.str w) H := ⟨rfl, k⟩
theorem c_kBM0s {w : Str} {rm : V → List V → Hp → VK → Prop} (k : rm (.str w) [] H Q) : kBM0 K "str" rm Q (.str w) H := ⟨rfl, k⟩
theorem c_append (h : H a = some (.lst xs)) (hz : xs.length < 1000000) (k : ∀ H', But a H H' → H' a = some (.lst (xs ++ [v])) → Q .non H') : rAppend (.ref a) [v] H Q := ⟨a, xs, v, rfl, rfl, h, sz' hz, k _ but_upd upd_same⟩
theorem c_extend (h : H a = some (.lst xs)) (h' : H b = some (.lst ys)) (hz : xs.length + ys.length ≤ 1000000) (k : ∀ H', But a H H' → H' a = some (.lst (xs ++ ys)) → Q .non H') : rExtend (.ref a) [.ref b] H Q := ⟨a, b, xs, ys, rfl, rfl, h, h', sz hz, k _ but_upd upd_same⟩
theorem c_pop0 (h : H a = some (.lst (v :: xs))) (k : ∀ H', But a H H' → H' a = some (.lst xs) → Q v H') : rPopAt (.ref a) [.int 0] H Q := ⟨a, v :: xs, 0, 0, v, rfl, rfl, h, by decide, by decide, by
  unfold seqIndex?
  rw [if_pos (by simp)]
  rfl, rfl, k _ but_upd upd_same⟩
theorem c_reverse (h : H a = some (.lst xs)) (k : ∀ H', But a H H' → H' a = some (.lst xs.reverse) → Q .non H') : rReverse (.ref a) [] H Q := ⟨a, xs, rfl, rfl, h, k _ but_upd upd_same⟩
theorem c_clear (h : H a = some (.lst xs)) (k : ∀ H', But a H H' → H' a = some (.lst []) → Q .non H') : rClear (.ref a) [] H Q := ⟨a, xs, rfl, rfl, h, k _ but_upd upd_same⟩
theorem c_countI {ns : List Int} {n : Int} (h : SqL K H a (ns.map V.int)) (k : Q (.int (ns.count n : Nat)) H) : rCntI K (.ref a) [.int n] H Q := ⟨a, ns, n, rfl, rfl, h, k⟩
/-! targets, statements: what is wanted stands as ⟨next, return, break, continue⟩ -/
variable {nx bk ct : L2.St → Hp → Prop} {rt : VK}
theorem c_gn0 {q : L2.St → Hp → Prop} {s0 : Option V} {s : L2.St} (k : q (some v :: s) H) : gName 0 v (s0 :: s) H q := k
theorem c_gn1 {q : L2.St → Hp → Prop} {s0 s1 : Option V} {s : L2.St} (k : q (s0 :: some v :: s) H) : gName 1 v (s0 :: s1 :: s) H q := k
theorem c_gn2 {q : L2.St → Hp → Prop} {s0 s1 s2 : Option V} {s : L2.St} (k : q (s0 :: s1 :: some v :: s) H) : gName 2 v (s0 :: s1 :: s2 :: s) H q := k
theorem c_gn3 {q : L2.St → Hp → Prop} {s0 s1 s2 s3 : Option V} {s : L2.St} (k : q (s0 :: s1 :: s2 :: some v :: s) H) : gName 3 v (s0 :: s1 :: s2 :: s3 :: s) H q := k
theorem c_gn4 {q : L2.St → Hp → Prop} {s0 s1 s2 s3 s4 : Option V} {s : L2.St} (k : q (s0 :: s1 :: s2 :: s3 :: some v :: s) H) : gName 4 v (s0 :: s1 :: s2 :: s3 :: s4 :: s) H q := k
theorem c_gn5 {q : L2.St → Hp → Prop} {s0 s1 s2 s3 s4 s5 : Option V} {s : L2.St} (k : q (s0 :: s1 :: s2 :: s3 :: s4 :: some v :: s) H) : gName 5 v (s0 :: s1 :: s2 :: s3 :: s4 :: s5 :: s) H q := k
theorem c_gn6 {q : L2.St → Hp → Prop} {s0 s1 s2 s3 s4 s5 s6 : Option V} {s : L2.St} (k : q (s0 :: s1 :: s2 :: s3 :: s4 :: s5 :: some v :: s) H) : gName 6 v (s0 :: s1 :: s2 :: s3 :: s4 :: s5 :: s6 :: s) H q := k
theorem c_gn7 {q : L2.St → Hp → Prop} {s0 s1 s2 s3 s4 s5 s6 s7 : Option V} {s : L2.St} (k : q (s0 :: s1 :: s2 :: s3 :: s4 :: s5 :: s6 :: some v :: s) H) : gName 7 v (s0 :: s1 :: s2 :: s3 :: s4 :: s5 :: s6 :: s7 :: s) H q := k
theorem c_gn8 {q : L2.St → Hp → Prop} {s0 s1 s2 s3 s4 s5 s6 s7 s8 : Option V} {s : L2.St} (k : q (s0 :: s1 :: s2 :: s3 :: s4 :: s5 :: s6 :: s7 :: some v :: s) H) : gName 8 v (s0 :: s1 :: s2 :: s3 :: s4 :: s5 :: s6 :: s7 :: s8 :: s) H q := k
theorem c_gnS {q : L2.St → Hp → Prop} {s0 s1 s2 s3 s4 s5 s6 s7 s8 : Option V} {s : L2.St} (k : gName i v s H fun s' H' => q (s0 :: s1 :: s2 :: s3 :: s4 :: s5 :: s6 :: s7 :: s8 :: s') H') : gName (i + 9) v (s0 :: s1 :: s2 :: s3 :: s4 :: s5 :: s6 :: s7 :: s8 :: s) H q := k
theorem c_gtup {n : Nat} {q : L2.St → Hp → Prop} (h : SqT K H a xs) (hl : xs.length = n) (k : gs xs σ H q) : gTup K n gs (.ref a) σ H q := ⟨a, xs, rfl, h, hl, k⟩
theorem c_gnil {q : L2.St → Hp → Prop} (k : q σ H) : gNil [] σ H q := ⟨rfl, k⟩
theorem c_gcons {q : L2.St → Hp → Prop} {us : List V} (k : g v σ H fun σ' H' => gs us σ' H' q) : gCons g gs (v :: us) σ H q := ⟨v, us, rfl, k⟩
theorem c_gsub {st : TSet} {q : L2.St → Hp → Prop} (k : ta σ H fun o H1 => tb σ H1 fun n H2 => st o n v H2 fun H3 => q σ H3) : gSub ta tb st v σ H q := k
theorem c_setL {n : Int} {m : Nat} {q : Hp → Prop} (h : H a = some (.lst xs)) (hi : ixN xs.length n = some m) (k : ∀ H', But a H H' → H' a = some (.lst (xs.set m v)) → q H') : rSetL (.ref a) (.int n) v H q := ⟨a, xs, n, m, rfl, rfl, h, hi, k _ but_upd upd_same⟩
theorem ixN_nat {n : Nat} {m : Int} (h0 : 0 ≤ m) (h1 : m < n) : ixN n m = some m.toNat := by
  unfold ixN
  rw [if_pos h0, if_pos h1]
theorem c_seq (k : ts ⟨tz ⟨nx, rt, bk, ct⟩, rt, bk, ct⟩ σ H) : tSeq ts tz ⟨nx, rt, bk, ct⟩ σ H := k
theorem c_next (k : nx σ H) : tNext ⟨nx, rt, bk, ct⟩ σ H := k
theorem c_asg (k : te σ H fun x H1 => g x σ H1 nx) : tAsg te g ⟨nx, rt, bk, ct⟩ σ H := k
def kPar (i j : Nat) (nx : L2.St → Hp → Prop) (σ : L2.St) : List V → Hp → Prop := fun vs H1 => ∃ v w, vs = [v, w] ∧ nx ((σ.set i (some v)).set j (some w)) H1
theorem c_par (k : tr σ H (kPar i j nx σ)) : tPar i j tr ⟨nx, rt, bk, ct⟩ σ H := k
theorem c_kPar (k : gName i x σ H fun σ1 H1 => gName j y σ1 H1 nx) : kPar i j nx σ [x, y] H := ⟨x, y, rfl, k⟩
theorem c_aug {ti : TIp} (h : σ[i]? = some (some x)) (k : te σ H fun y H1 => ti x y H1 fun z H2 => gName i z σ H2 nx) : tAug i te ti ⟨nx, rt, bk, ct⟩ σ H := ⟨x, h, k⟩
theorem c_ipI {f : Int → Int → Int} {m n : Int} (k : Q (.int (f m n)) H) : ipI f (.int m) (.int n) H Q := ⟨m, n, rfl, rfl, k⟩
theorem c_drop (k : te σ H fun _ H1 => nx σ H1) : tDrop te ⟨nx, rt, bk, ct⟩ σ H := k
theorem c_ret (k : te σ H rt) : tRet te ⟨nx, rt, bk, ct⟩ σ H := k
theorem c_retN (k : rt .non H) : tRetN ⟨nx, rt, bk, ct⟩ σ H := k
theorem c_ifS (k : tt σ H fun c H1 => if c = true then ts ⟨nx, rt, bk, ct⟩ σ H1 else tz ⟨nx, rt, bk, ct⟩ σ H1) : tIfS tt ts tz ⟨nx, rt, bk, ct⟩ σ H := k
theorem c_brk (k : bk σ H) : tBreak ⟨nx, rt, bk, ct⟩ σ H := k
theorem c_cnt (k : ct σ H) : tCont ⟨nx, rt, bk, ct⟩ σ H := k
def kSFld (K : PySem.W.Frag) (f : Str) (y : V) (σ : L2.St) (nx : L2.St → Hp → Prop) : VK := fun x H2 => ∃ a C dx fs, x = .ref a ∧ H2 a = some (.ins C dx fs) ∧ Cls K C ∧ NoAttr K C f ∧ fs.length < 1000 ∧ nx σ (upd H2 a (.ins C dx (putF f y fs)))
theorem c_sfld {f : Str} (k : tb σ H fun y H1 => ta σ H1 (kSFld K f y σ nx)) : sFld K ta tb f ⟨nx, rt, bk, ct⟩ σ H := k
theorem c_kSFld {f : Str} {fs : List (Str × V)} (h : H a = some (.ins C dx fs)) (hc : Cls K C) (hn : NoAttr K C f) (hl : fs.length < 1000) (k : ∀ H', But a H H' → H' a = some (.ins C dx (putF f y fs)) → nx σ H') : kSFld K f y σ nx (.ref a) H := ⟨a, C, dx, fs, rfl, h, hc, hn, hl, k _ but_upd upd_same⟩
theorem c_cut {M : L2.St → Hp → Prop} (h : ts ⟨M, rt, bk, ct⟩ σ H) (k : ∀ σ' H', M σ' H' → tz ⟨nx, rt, bk, ct⟩ σ' H') (mono : ∀ N N' : L2.St → Hp → Prop, (∀ s h, N s h → N' s h) → ts ⟨N, rt, bk, ct⟩ σ H → ts ⟨N', rt, bk, ct⟩ σ H) : tSeq ts tz ⟨nx, rt, bk, ct⟩ σ H := mono _ _ k h
/-! ### loops -/
variable {tl : TE} {tb' : TS}
def kForL (K : PySem.W.Frag) (g : TG) (tb : TS) (D : Ends) (σ : L2.St) : VK := fun x H1 => ∃ a, x = .ref a ∧ (∃ xs, SqL K H1 a xs) ∧ ∃ W : Nat → Nat → L2.St → Hp → Prop, (∃ m, W 0 m σ H1) ∧ ∀ i m σ H, W i m σ H →
  ((Itl K a).stop i H ∧ D.nx σ H) ∨ ((Itl K a).go i H ∧ ∃ N : L2.St → Hp → Prop, (∀ σ' H', N σ' H' → ∃ m', m' < m ∧ W (i + 1) m' σ' H') ∧ ∀ x H', (Itl K a).yld i H x H' → g x σ H' fun σ2 H2 => tb { D with nx := N, ct := N, bk := D.nx } σ2 H2)
theorem c_forL (k : tl σ H (kForL K g tb' D σ)) : tFor (iList K tl) g tb' D σ H := k
theorem take_mid {α : Type} {l : List α} {i : Nat} {x : α} (h : l[i]? = some x) : ∃ post, l = l.take i ++ x :: post ∧ l.take (i + 1) = l.take i ++ [x] := by
  obtain ⟨hi, e⟩ := List.getElem?_eq_some_iff.mp h
  refine ⟨l.drop (i + 1), ?_, ?_⟩
  · rw [← e, List.getElem_cons_drop, List.take_append_drop]
  · rw [List.take_add_one, h]
    rfl
/-- over a list of f's values: by what has been taken -/
theorem l_forM {α : Type} {f : α → V} {ns : List α} (hx : SqL K H a (ns.map f)) (Pv : List α → L2.St → Hp → Prop) (h0 : Pv [] σ H) (hl : ∀ pre post σ' H', ns = pre ++ post → Pv pre σ' H' → SqL K H' a (ns.map f))
    (hs : ∀ pre x post σ' H', ns = pre ++ x :: post → Pv pre σ' H' → g (f x) σ' H' fun σ2 H2 => tb' ⟨Pv (pre ++ [x]), rt, nx, Pv (pre ++ [x])⟩ σ2 H2) (hd : ∀ σ' H', Pv ns σ' H' → nx σ' H') : kForL K g tb' ⟨nx, rt, bk, ct⟩ σ (.ref a) H := by
  refine ⟨a, rfl, ⟨_, hx⟩, for_list (K := K) (a := a) (xs := ns.map f) (fun i σ' H' => Pv (ns.take i) σ' H') (by rw [List.take_zero]; exact h0) (fun i σ' H' _ p => hl _ (ns.drop i) σ' H' (List.take_append_drop i ns).symm p) (fun i x σ' H' hi p => ?_) (fun σ' H' p => hd σ' H' ?_)⟩
  · rw [List.getElem?_map] at hi
    obtain ⟨y, hy, rfl⟩ := Option.map_eq_some_iff.mp hi
    obtain ⟨post, e1, e2⟩ := take_mid hy
    rw [e2]
    exact hs _ y post σ' H' e1 p
  · rw [List.length_map, List.take_length] at p
    exact p
def kFor1 (g : TG) (tb : TS) (D : Ends) (σ : L2.St) : List V → Hp → Prop := fun vs H1 => ∃ j : Int, vs = [.int j] ∧ -(2 ^ 62) ≤ j ∧ j < 2 ^ 62 ∧ ∃ W : Nat → Nat → L2.St → Hp → Prop, (∃ m, W 0 m σ H1) ∧ ∀ i m σ H, W i m σ H →
  ((Itr 0 j.toNat).stop i H ∧ D.nx σ H) ∨ ((Itr 0 j.toNat).go i H ∧ ∃ N : L2.St → Hp → Prop, (∀ σ' H', N σ' H' → ∃ m', m' < m ∧ W (i + 1) m' σ' H') ∧ ∀ x H', (Itr 0 j.toNat).yld i H x H' → g x σ H' fun σ2 H2 => tb { D with nx := N, ct := N, bk := D.nx } σ2 H2)
theorem c_for1 (k : tr σ H (kFor1 g tb' D σ)) : tFor (iRng1 tr) g tb' D σ H := k
/-- over range(n) -/
theorem l_for1 {e : Int} (n : Nat) (he : e = (n : Int)) (hn : n ≤ 1000000) (Pv : Nat → L2.St → Hp → Prop) (h0 : Pv 0 σ H) (hs : ∀ i σ' H', i < n → Pv i σ' H' → g (.int (i : Nat)) σ' H' fun σ2 H2 => tb' ⟨Pv (i + 1), rt, nx, Pv (i + 1)⟩ σ2 H2)
    (hd : ∀ σ' H', Pv n σ' H' → nx σ' H') : kFor1 g tb' ⟨nx, rt, bk, ct⟩ σ [.int e] H := by
  subst he
  refine ⟨_, rfl, by omega, by omega, ?_⟩
  rw [Int.toNat_natCast]
  refine for_range (lo := 0) (n := n) (D := ⟨nx, rt, bk, ct⟩) Pv h0 (fun i σ' H' hi p => ?_) hd
  rw [Int.zero_add]
  exact hs i σ' H' hi p
def kFor2 (g : TG) (tb : TS) (D : Ends) (σ : L2.St) : List V → Hp → Prop := fun vs H1 => ∃ i j : Int, vs = [.int i, .int j] ∧ (-(2 ^ 62) ≤ i ∧ i < 2 ^ 62 ∧ -(2 ^ 62) ≤ j ∧ j < 2 ^ 62) ∧ ∃ W : Nat → Nat → L2.St → Hp → Prop, (∃ m, W 0 m σ H1) ∧ ∀ k m σ H, W k m σ H →
  ((Itr i (j - i).toNat).stop k H ∧ D.nx σ H) ∨ ((Itr i (j - i).toNat).go k H ∧ ∃ N : L2.St → Hp → Prop, (∀ σ' H', N σ' H' → ∃ m', m' < m ∧ W (k + 1) m' σ' H') ∧ ∀ x H', (Itr i (j - i).toNat).yld k H x H' → g x σ H' fun σ2 H2 => tb { D with nx := N, ct := N, bk := D.nx } σ2 H2)
theorem c_for2 (k : tr σ H (kFor2 g tb' D σ)) : tFor (iRng2 tr) g tb' D σ H := k
/-- over range(lo, lo + n) -/
theorem l_for2 {e e' : Int} (lo n : Nat) (he : e = (lo : Int)) (he' : (e' - e).toNat = n) (hn : lo + n ≤ 1000000) (hb : -1000000 ≤ e' ∧ e' ≤ 1000000) (Pv : Nat → L2.St → Hp → Prop) (h0 : Pv 0 σ H)
    (hs : ∀ i σ' H', i < n → Pv i σ' H' → g (.int ((lo + i : Nat) : Int)) σ' H' fun σ2 H2 => tb' ⟨Pv (i + 1), rt, nx, Pv (i + 1)⟩ σ2 H2)
    (hd : ∀ σ' H', Pv n σ' H' → nx σ' H') : kFor2 g tb' ⟨nx, rt, bk, ct⟩ σ [.int e, .int e'] H := by
  subst he he'
  refine ⟨_, _, rfl, ⟨by omega, by omega, by omega, by omega⟩, ?_⟩
  refine for_range (lo := (lo : Int)) (n := (e' - (lo : Int)).toNat) (D := ⟨nx, rt, bk, ct⟩) Pv h0 (fun i σ' H' hi p => ?_) hd
  have := hs i σ' H' hi p
  rw [Int.natCast_add] at this
  exact this
/-- a while, by a measure -/
theorem l_while (Pv : Nat → L2.St → Hp → Prop) (m : Nat) (h0 : Pv m σ H) (hs : ∀ m σ' H', Pv m σ' H' → tt σ' H' fun b H1 => if b = true then tb' ⟨fun σ2 H2 => ∃ m', m' < m ∧ Pv m' σ2 H2, rt, nx, fun σ2 H2 => ∃ m', m' < m ∧ Pv m' σ2 H2⟩ σ' H1 else nx σ' H1)
    (mono : ∀ σ H Q Q', (∀ b H1, Q b H1 → Q' b H1) → tt σ H Q → tt σ H Q') : tWhile tt tb' ⟨nx, rt, bk, ct⟩ σ H := by
  refine ⟨Pv, ⟨m, h0⟩, fun m σ' H' p => mono σ' H' _ _ (fun b H1 q => ?_) (hs m σ' H' p)⟩
  cases b with
  | true => exact ⟨_, fun _ _ z => z, q⟩
  | false => exact q
end
end Rf

set_option Elab.async false
set_option linter.all false
set_option maxRecDepth 100000
set_option maxHeartbeats 4000000
/-! Rf, part 2: operators by short names, comprehensions, more loops, methods of one of several classes, a class without __init__. -/
namespace Rf
open PySem PySem.Spec L2
abbrev oAdd : R2 := rI0 fun i j => .int (i + j)
abbrev oSub : R2 := rI0 fun i j => .int (i - j)
abbrev oMul : R2 := rI CMul fun i j => .int (i * j)
abbrev oDiv : R2 := rI CDiv fun i j => .int (i / j)
abbrev oMod : R2 := rI (fun _ j => 0 < j) fun i j => .int (i % j)
abbrev oAnd : R2 := rI0 fun i j => .int (Builtin.bitAnd i j)
abbrev oShr : R2 := rI (fun _ j => 0 ≤ j) fun i j => .int (i / 2 ^ j.toNat)
abbrev oShl : R2 := rI CPow fun i j => .int (i * 2 ^ j.toNat)
abbrev oPow : R2 := rI CPow fun i j => .int (i ^ j.toNat)
abbrev oLt : R2 := rI0 fun i j => .bl (decide (i < j))
abbrev oLe : R2 := rI0 fun i j => .bl (decide (i ≤ j))
abbrev oGt : R2 := rI0 fun i j => .bl (decide (j < i))
abbrev oGe : R2 := rI0 fun i j => .bl (decide (j ≤ i))
abbrev oNeg : V → Hp → VK → Prop := rU fun i => .int (-i)
abbrev ipAdd : TIp := ipI fun i j => i + j
abbrev vN (k : Nat) : V := .int (k : Int)
section
variable {K : PySem.W.Frag} {σ σ' : L2.St} {H H1 H2 : Hp} {Q : VK} {D : Ends} {v x y z : V} {ta tb tc te tl : TE} {tr : TA} {tt tu : TT} {ts tz tw tb' : TS} {g : TG} {gs : TGs} {r r' : R2} {i j : Nat} {E : XK} {a b l p C dx : Addr} {xs ys : List V} {sp : Sp} {vs : List V} {bq : Bool → Hp → Prop} {lq : List V → Hp → Prop} {nx bk ct : L2.St → Hp → Prop} {rt : VK}
theorem c_mul {m n : Int} (h : (-1000000000 ≤ m ∧ m ≤ 1000000000) ∨ (-1000000000 ≤ n ∧ n ≤ 1000000000)) (k : Q (.int (m * n)) H) : oMul (.int m) (.int n) H Q := c_iC (h.elim (fun z => .inl (by omega)) fun z => .inr (by omega)) k
theorem c_div {m n : Int} (h : 0 < n ∧ n < 1073741824) (k : Q (.int (m / n)) H) : oDiv (.int m) (.int n) H Q := c_iC h k
theorem c_mod {m n : Int} (h : 0 < n) (k : Q (.int (m % n)) H) : oMod (.int m) (.int n) H Q := c_iC h k
theorem bit1 (n : Nat) : Builtin.bitAnd (n : Int) 1 = ((n % 2 : Nat) : Int) := by
  show ((n &&& 1 : Nat) : Int) = _
  rw [Nat.and_one_is_mod]
theorem c_and1 {n : Nat} (k : Q (.int ((n % 2 : Nat) : Int)) H) : oAnd (.int (n : Int)) (.int 1) H Q := c_i0 (by rw [bit1]; exact k)
theorem c_shr1 {n : Nat} (k : Q (.int ((n / 2 : Nat) : Int)) H) : oShr (.int (n : Int)) (.int 1) H Q := c_iC (by decide) (by
  have e : (n : Int) / 2 ^ (1 : Int).toNat = ((n / 2 : Nat) : Int) := by
    show (n : Int) / 2 ^ 1 = _
    omega
  rw [e]
  exact k)
/-! ### comprehensions -/
def kLcL (K : PySem.W.Frag) (g : TG) (tt : TT) (te : TE) (vs : List Nat) (σ : L2.St) (Q : VK) : VK := fun x H1 => ∃ a, x = .ref a ∧ (∃ xs, SqL K H1 a xs) ∧ ∀ D, H1 D = none → ∃ W : Nat → Nat → Hp → Prop, (∃ m, W 0 m (upd H1 D (.lst []))) ∧ ∀ i m H, W i m H →
  ((Itl K a).stop i H ∧ Q (.ref D) H) ∨ ((Itl K a).go i H ∧ ∃ Nx : Hp → Prop, (∀ H', Nx H' → ∃ m', m' < m ∧ W (i + 1) m' H') ∧ ∀ x H', (Itl K a).yld i H x H' → g x (wipe σ vs) H' fun σ2 H2 => wipe σ2 vs = wipe σ vs ∧ tt σ2 H2 fun b H3 =>
    if b = true then te σ2 H3 fun y H4 => ∃ acc, H4 D = some (.lst acc) ∧ acc.length < sizeLine ∧ Nx (upd H4 D (.lst (acc ++ [y]))) else Nx H3)
theorem c_lcL {vs : List Nat} (k : tl σ H (kLcL K g tt te vs σ Q)) : tLc (iList K tl) g tt te vs σ H Q := k
def kLc1 (g : TG) (tt : TT) (te : TE) (vs : List Nat) (σ : L2.St) (Q : VK) : List V → Hp → Prop := fun us H1 => ∃ n : Int, us = [.int n] ∧ -(2 ^ 62) ≤ n ∧ n < 2 ^ 62 ∧ ∀ D, H1 D = none → ∃ W : Nat → Nat → Hp → Prop, (∃ m, W 0 m (upd H1 D (.lst []))) ∧ ∀ i m H, W i m H →
  ((Itr 0 n.toNat).stop i H ∧ Q (.ref D) H) ∨ ((Itr 0 n.toNat).go i H ∧ ∃ Nx : Hp → Prop, (∀ H', Nx H' → ∃ m', m' < m ∧ W (i + 1) m' H') ∧ ∀ x H', (Itr 0 n.toNat).yld i H x H' → g x (wipe σ vs) H' fun σ2 H2 => wipe σ2 vs = wipe σ vs ∧ tt σ2 H2 fun b H3 =>
    if b = true then te σ2 H3 fun y H4 => ∃ acc, H4 D = some (.lst acc) ∧ acc.length < sizeLine ∧ Nx (upd H4 D (.lst (acc ++ [y]))) else Nx H3)
theorem c_lc1 {vs : List Nat} (k : tr σ H (kLc1 g tt te vs σ Q)) : tLc (iRng1 tr) g tt te vs σ H Q := k
/-- what a comprehension has made so far, each value with what holds of it -/
structure LcW {α : Type} (R : α → V → Hp → Prop) (keep : α → Bool) (H0 : Hp) (D : Addr) (pre : List α) (H : Hp) : Prop where
  ex : ∃ acc : List V, H0 D = none ∧ Same H0 H ∧ H D = some (.lst acc) ∧ Paired (fun x v => R x v H) (pre.filter keep) acc
theorem paired_mono {α β : Type} {F G : α → β → Prop} : ∀ {l : List α} {m : List β}, (∀ a b, F a b → G a b) → Paired F l m → Paired G l m
  | _, _, _, .nil => .nil
  | _, _, h, .cons r t => .cons (h _ _ r) (paired_mono h t)
theorem paired_snoc {α β : Type} {F : α → β → Prop} {a : α} {b : β} (h : F a b) : ∀ {l : List α} {m : List β}, Paired F l m → Paired F (l ++ [a]) (m ++ [b])
  | _, _, .nil => .cons h .nil
  | _, _, .cons r t => .cons r (paired_snoc h t)
theorem paired_len {α β : Type} {F : α → β → Prop} : ∀ {l : List α} {m : List β}, Paired F l m → m.length = l.length
  | _, _, .nil => rfl
  | _, _, .cons _ t => by rw [List.length_cons, List.length_cons, paired_len t]
theorem paired_map {α : Type} {h : α → V} {F : α → V → Prop} : ∀ {l : List α} {m : List V}, (∀ a b, F a b → b = h a) → Paired F l m → m = l.map h
  | _, _, _, .nil => rfl
  | _, _, hh, .cons r t => by rw [List.map_cons, hh _ _ r, paired_map hh t]
/-- one turn of a comprehension -/
theorem lc_turn {α : Type} {R : α → V → Hp → Prop} {keep : α → Bool} {H0 H' : Hp} {D : Addr} {pre : List α} {x : α} {σ2 : L2.St} {te : TE} {tt : TT} (hR : ∀ x v H H', Same H H' → R x v H → R x v H') (hB : ∀ x v H l o, H0 l = none → R x v H → R x v (upd H l o)) (hn : pre.length < 1000000) (w : LcW R keep H0 D pre H')
    (ht : ∀ H' (q : Bool → Hp → Prop), Same H0 H' → (∀ H'', Same H' H'' → q (keep x) H'') → tt σ2 H' q)
    (he : keep x = true → ∀ H' (q : VK), Same H0 H' → (∀ v H'', Same H' H'' → R x v H'' → q v H'') → te σ2 H' q) {N : Hp → Prop} (hN : ∀ H'', LcW R keep H0 D (pre ++ [x]) H'' → N H'') :
    tt σ2 H' fun b H3 => if b = true then te σ2 H3 fun y H4 => ∃ acc, H4 D = some (.lst acc) ∧ acc.length < sizeLine ∧ N (upd H4 D (.lst (acc ++ [y]))) else N H3 := by
  obtain ⟨acc, hD, s0, hacc, hp⟩ := w.ex
  refine ht H' _ s0 fun H3 s3 => ?_
  refine if_2 (fun hk => ?_) (fun hk => ?_)
  · refine he hk H3 _ (s0.trans s3) fun v H4 s4 hv => ?_
    refine ⟨acc, s4 _ _ (s3 _ _ hacc), ?_, hN _ ⟨acc ++ [v], hD, ?_, upd_same, ?_⟩⟩
    · rw [paired_len hp]
      exact sz' (Nat.lt_of_le_of_lt (List.length_filter_le _ _) hn)
    · exact same_of_but hD ((s0.trans s3).trans s4) but_upd
    · rw [List.filter_append, List.filter_cons, if_pos hk]
      exact paired_mono (F := fun a b => R a b H4) (fun a b z => hB a b _ _ _ hD z) (paired_snoc (F := fun a b => R a b H4) hv (paired_mono (F := fun a b => R a b H') (fun a b z => hR a b _ _ (s3.trans s4) z) hp))
  · refine hN _ ⟨acc, hD, s0.trans s3, s3 _ _ hacc, ?_⟩
    rw [List.filter_append, List.filter_cons, if_neg (by rw [hk]; decide)]
    show Paired _ (pre.filter keep ++ []) acc
    rw [List.append_nil]
    exact paired_mono (fun a b z => hR a b _ _ s3 z) hp
/-- [e for x in xs if c]: each value by R -/
theorem l_lcG {α : Type} {f : α → V} {ns : List α} {vs : List Nat} (R : α → V → Hp → Prop) (keep : α → Bool) (hx : SqL K H a (ns.map f)) (hn : ns.length ≤ 1000000) (hR : ∀ x v H H', Same H H' → R x v H → R x v H') (hB : ∀ x v H' l o, H l = none → R x v H' → R x v (upd H' l o))
    (hw : ∀ x, wipe ((wipe σ vs).set j (some x)) vs = wipe σ vs)
    (ht : ∀ x H' (q : Bool → Hp → Prop), x ∈ ns → Same H H' → (∀ H'', Same H' H'' → q (keep x) H'') → tt ((wipe σ vs).set j (some (f x))) H' q)
    (he : ∀ x H' (q : VK), x ∈ ns → keep x = true → Same H H' → (∀ v H'', Same H' H'' → R x v H'' → q v H'') → te ((wipe σ vs).set j (some (f x))) H' q)
    (k : ∀ p H' acc, H p = none → Same H H' → H' p = some (.lst acc) → Paired (fun x v => R x v H') (ns.filter keep) acc → Q (.ref p) H') : kLcL K (gName j) tt te vs σ Q (.ref a) H := by
  refine ⟨a, rfl, ⟨_, hx⟩, fun D hD => lc_list (xs := ns.map f) (fun i H' => LcW R keep H D (ns.take i) H') ⟨[], hD, same_upd hD, upd_same, by rw [List.take_zero]; exact .nil⟩ (fun i H' _ w => ?_) (fun i x H' hi w => ?_) (fun H' w => ?_)⟩
  · obtain ⟨_, _, s, _⟩ := w.ex
    exact sl_same s hx
  · rw [List.getElem?_map] at hi
    obtain ⟨y, hy, rfl⟩ := Option.map_eq_some_iff.mp hi
    obtain ⟨post, e1, e2⟩ := take_mid hy
    have hm : y ∈ ns := List.mem_of_getElem? hy
    have hi' := (List.getElem?_eq_some_iff.mp hy).1
    refine ⟨hw _, lc_turn (x := y) hR hB (by rw [List.length_take]; omega) w (fun H' q s z => ht y H' q hm s z) (fun hk H' q s z => he y H' q hm hk s z) fun H'' w' => ?_⟩
    rw [e2]
    exact w'
  · rw [List.length_map, List.take_length] at w
    obtain ⟨acc, h1, h2, h3, h4⟩ := w.ex
    exact k D H' acc h1 h2 h3 h4
theorem l_lcG1 {e : Int} (n : Nat) (he0 : e = (n : Int)) (hn : n ≤ 1000000) {vs : List Nat} (R : Nat → V → Hp → Prop) (keep : Nat → Bool) (hR : ∀ x v H H', Same H H' → R x v H → R x v H') (hB : ∀ x v H' l o, H l = none → R x v H' → R x v (upd H' l o))
    (hw : ∀ x, wipe ((wipe σ vs).set j (some x)) vs = wipe σ vs)
    (ht : ∀ x H' (q : Bool → Hp → Prop), x < n → Same H H' → (∀ H'', Same H' H'' → q (keep x) H'') → tt ((wipe σ vs).set j (some (vN x))) H' q)
    (he : ∀ x H' (q : VK), x < n → keep x = true → Same H H' → (∀ v H'', Same H' H'' → R x v H'' → q v H'') → te ((wipe σ vs).set j (some (vN x))) H' q)
    (k : ∀ p H' acc, H p = none → Same H H' → H' p = some (.lst acc) → Paired (fun x v => R x v H') ((List.range n).filter keep) acc → Q (.ref p) H') : kLc1 (gName j) tt te vs σ Q [.int e] H := by
  subst he0
  refine ⟨_, rfl, by omega, by omega, fun D hD => ?_⟩
  rw [Int.toNat_natCast]
  refine lc_range (lo := 0) (n := n) (fun i H' => LcW R keep H D (List.range i) H') ⟨[], hD, same_upd hD, upd_same, .nil⟩ (fun i H' hi w => ?_) (fun H' w => ?_)
  · rw [Int.zero_add]
    refine ⟨hw _, lc_turn (x := i) hR hB (by rw [List.length_range]; omega) w (fun H' q s z => ht i H' q hi s z) (fun hk H' q s z => he i H' q hi hk s z) fun H'' w' => ?_⟩
    rw [List.range_succ]
    exact w'
  · obtain ⟨acc, h1, h2, h3, h4⟩ := w.ex
    exact k D H' acc h1 h2 h3 h4
/-- .. each value known ahead -/
theorem l_lcF {α : Type} {f : α → V} {ns : List α} {vs : List Nat} (h : α → V) (hx : SqL K H a (ns.map f)) (hn : ns.length ≤ 1000000) (hw : ∀ x, wipe ((wipe σ vs).set j (some x)) vs = wipe σ vs)
    (he : ∀ x H' (q : VK), x ∈ ns → Same H H' → (∀ H'', Same H' H'' → q (h x) H'') → te ((wipe σ vs).set j (some (f x))) H' q)
    (k : ∀ p H', H p = none → Same H H' → H' p = some (.lst (ns.map h)) → Q (.ref p) H') : kLcL K (gName j) tYes te vs σ Q (.ref a) H := by
  refine l_lcG (fun x v _ => v = h x) (fun _ => true) hx hn (fun _ _ _ _ _ z => z) (fun _ _ _ _ _ _ z => z) hw (fun x H' q _ _ z => z H' (Same.refl _)) (fun x H' q hm _ s z => he x H' q hm s fun H'' s' => z _ H'' s' rfl) fun p H' acc h1 h2 h3 h4 => ?_
  rw [List.filter_eq_self.mpr fun _ _ => rfl] at h4
  rw [paired_map (h := h) (fun _ _ z => z) h4] at h3
  exact k p H' h1 h2 h3
theorem l_lcT {α : Type} {f : α → V} {ns : List α} {vs : List Nat} (h : α → V) (keep : α → Bool) (hx : SqL K H a (ns.map f)) (hn : ns.length ≤ 1000000) (hw : ∀ x, wipe ((wipe σ vs).set j (some x)) vs = wipe σ vs)
    (ht : ∀ x H' (q : Bool → Hp → Prop), x ∈ ns → Same H H' → (∀ H'', Same H' H'' → q (keep x) H'') → tt ((wipe σ vs).set j (some (f x))) H' q)
    (he : ∀ x H' (q : VK), x ∈ ns → keep x = true → Same H H' → (∀ H'', Same H' H'' → q (h x) H'') → te ((wipe σ vs).set j (some (f x))) H' q)
    (k : ∀ p H', H p = none → Same H H' → H' p = some (.lst ((ns.filter keep).map h)) → Q (.ref p) H') : kLcL K (gName j) tt te vs σ Q (.ref a) H := by
  refine l_lcG (fun x v _ => v = h x) keep hx hn (fun _ _ _ _ _ z => z) (fun _ _ _ _ _ _ z => z) hw ht (fun x H' q hm hk s z => he x H' q hm hk s fun H'' s' => z _ H'' s' rfl) fun p H' acc h1 h2 h3 h4 => ?_
  rw [paired_map (h := h) (fun _ _ z => z) h4] at h3
  exact k p H' h1 h2 h3
theorem l_lcF1 {e : Int} (n : Nat) (he0 : e = (n : Int)) (hn : n ≤ 1000000) {vs : List Nat} (h : Nat → V) (hw : ∀ x, wipe ((wipe σ vs).set j (some x)) vs = wipe σ vs)
    (he : ∀ x H' (q : VK), x < n → Same H H' → (∀ H'', Same H' H'' → q (h x) H'') → te ((wipe σ vs).set j (some (vN x))) H' q)
    (k : ∀ p H', H p = none → Same H H' → H' p = some (.lst ((List.range n).map h)) → Q (.ref p) H') : kLc1 (gName j) tYes te vs σ Q [.int e] H := by
  refine l_lcG1 n he0 hn (fun x v _ => v = h x) (fun _ => true) (fun _ _ _ _ _ z => z) (fun _ _ _ _ _ _ z => z) hw (fun x H' q _ _ z => z H' (Same.refl _)) (fun x H' q hm _ s z => he x H' q hm s fun H'' s' => z _ H'' s' rfl) fun p H' acc h1 h2 h3 h4 => ?_
  rw [List.filter_eq_self.mpr fun _ _ => rfl] at h4
  rw [paired_map (h := h) (fun _ _ z => z) h4] at h3
  exact k p H' h1 h2 h3
/-! ### over a text's signs -/
def kForS (g : TG) (tb : TS) (D : Ends) (σ : L2.St) : VK := fun v H1 => ∃ x, v = .str x ∧ ∃ W : Nat → Nat → L2.St → Hp → Prop, (∃ m, W 0 m σ H1) ∧ ∀ i m σ H, W i m σ H →
  ((Its x).stop i H ∧ D.nx σ H) ∨ ((Its x).go i H ∧ ∃ N : L2.St → Hp → Prop, (∀ σ' H', N σ' H' → ∃ m', m' < m ∧ W (i + 1) m' σ' H') ∧ ∀ y H', (Its x).yld i H y H' → g y σ H' fun σ2 H2 => tb { D with nx := N, ct := N, bk := D.nx } σ2 H2)
theorem c_forS (k : te σ H (kForS g tb' D σ)) : tFor (iStr te) g tb' D σ H := k
theorem l_forS {w : Str} (cs : List Nat) (hw : w.cps.toList = cs) (Pv : List Nat → L2.St → Hp → Prop) (h0 : Pv [] σ H)
    (hs : ∀ pre x post σ' H', cs = pre ++ x :: post → Pv pre σ' H' → g (.str ⟨#[x]⟩) σ' H' fun σ2 H2 => tb' ⟨Pv (pre ++ [x]), rt, nx, Pv (pre ++ [x])⟩ σ2 H2) (hd : ∀ σ' H', Pv cs σ' H' → nx σ' H') : kForS g tb' ⟨nx, rt, bk, ct⟩ σ (.str w) H := by
  have hl : cs.length = w.cps.size := by rw [← hw, Array.length_toList]
  refine ⟨w, rfl, fun i m σ' H' => m = cs.length - i ∧ i ≤ cs.length ∧ Pv (cs.take i) σ' H', ⟨cs.length, by simp, Nat.zero_le _, by rw [List.take_zero]; exact h0⟩, ?_⟩
  rintro i m σ' H' ⟨rfl, hi, p⟩
  by_cases hlt : i < cs.length
  · refine .inr ⟨by show i < w.cps.size; omega, Pv (cs.take (i + 1)), fun σ2 H2 p' => ⟨cs.length - (i + 1), by omega, rfl, hlt, p'⟩, fun y H2 hy => ?_⟩
    obtain ⟨rfl, c, hc, rfl⟩ := hy
    have hc' : cs[i]? = some c := by rw [← hw, Array.getElem?_toList]; exact hc
    obtain ⟨post, e1, e2⟩ := take_mid hc'
    rw [e2]
    exact hs _ c post σ' _ e1 p
  · have e : i = cs.length := by omega
    subst e
    rw [List.take_length] at p
    exact .inl ⟨by show w.cps.size ≤ _; omega, hd σ' H' p⟩
/-! ### reversed(range(n)) -/
def kRevR (g : TG) (tb : TS) (D : Ends) (σ : L2.St) : Int → Int → Hp → Prop := fun a b H1 => -(2 ^ 62) ≤ a ∧ a < 2 ^ 62 ∧ -(2 ^ 62) ≤ b ∧ b < 2 ^ 62 ∧ ∃ W : Nat → Nat → L2.St → Hp → Prop, (∃ m, W 0 m σ H1) ∧ ∀ i m σ H, W i m σ H →
  ((Itc (a + (((b - a).toNat : Nat) : Int) - 1) (-1) (b - a).toNat).stop i H ∧ D.nx σ H) ∨ ((Itc (a + (((b - a).toNat : Nat) : Int) - 1) (-1) (b - a).toNat).go i H ∧ ∃ N : L2.St → Hp → Prop, (∀ σ' H', N σ' H' → ∃ m', m' < m ∧ W (i + 1) m' σ' H') ∧ ∀ x H', (Itc (a + (((b - a).toNat : Nat) : Int) - 1) (-1) (b - a).toNat).yld i H x H' → g x σ H' fun σ2 H2 => tb { D with nx := N, ct := N, bk := D.nx } σ2 H2)
theorem c_forRev {t : L2.St → Hp → (Int → Int → Hp → Prop) → Prop} (k : t σ H (kRevR g tb' D σ)) : tFor (iRevR t) g tb' D σ H := k
theorem l_forRev {e : Int} (n : Nat) (he : e = (n : Int)) (hn : n ≤ 1000000) (Pv : Nat → L2.St → Hp → Prop) (h0 : Pv n σ H) (hs : ∀ i σ' H', i < n → Pv (i + 1) σ' H' → g (.int (i : Nat)) σ' H' fun σ2 H2 => tb' ⟨Pv i, rt, nx, Pv i⟩ σ2 H2)
    (hd : ∀ σ' H', Pv 0 σ' H' → nx σ' H') : kRevR g tb' ⟨nx, rt, bk, ct⟩ σ 0 e H := by
  subst he
  refine ⟨by decide, by decide, by omega, by omega, ?_⟩
  have e1 : ((n : Int) - 0).toNat = n := by omega
  rw [e1]
  refine for_rangeC (D := ⟨nx, rt, bk, ct⟩) (fun i σ' H' => i ≤ n ∧ Pv (n - i) σ' H') ⟨Nat.zero_le _, h0⟩ (fun i σ' H' hi p => ?_) (fun σ' H' p => hd σ' H' (by have := p.2; rwa [Nat.sub_self] at this))
  have e2 : (0 : Int) + (n : Nat) - 1 + (i : Nat) * (-1) = ((n - 1 - i : Nat) : Int) := by omega
  rw [e2]
  have e3 : n - i = (n - 1 - i) + 1 := by omega
  have h := hs (n - 1 - i) σ' H' (by omega) (by rw [← e3]; exact p.2)
  have e4 : (fun (σ2 : L2.St) (H2 : Hp) => i + 1 ≤ n ∧ Pv (n - (i + 1)) σ2 H2) = Pv (n - 1 - i) := by
    funext s h
    have e5 : n - (i + 1) = n - 1 - i := by omega
    rw [e5]
    exact propext ⟨fun z => z.2, fun z => ⟨hi, z⟩⟩
  rw [e4]
  exact h
end
/-! ### the classes; a method of one of several -/
inductive Kd | cut | turn | deal | under | weave | riffle
  deriving DecidableEq
structure Cl where
  (cMove cCut cTurn cDeal cUnder cWeave cRiffle cAnswer cMixed cFault cPackError cBadOrder cBadMove cBadNumber cBadText : Addr)
  (av pr : Kd → Prop)
def Cl.of (C : Cl) : Kd → Addr
  | .cut => C.cCut | .turn => C.cTurn | .deal => C.cDeal | .under => C.cUnder | .weave => C.cWeave | .riffle => C.cRiffle
def tMethA (C : Cl) (m : Str) (sp : Kd → Sp) (E : XK) (ta : TE) (t : TA) : TE := fun σ H Q => ta σ H fun x H1 => ∃ κ a dx fs, C.av κ ∧ x = .ref a ∧ H1 a = some (.ins (C.of κ) dx fs) ∧ fs.lookup m = none ∧ t σ H1 fun vs H2 => sp κ (x :: vs) H2 Q E
section
variable {X : Cx} {j : Nat} {C : Cl} {x m : Str} {sp : Kd → Sp} {p pos apos : Pos} {e o : Expr} {es : List Expr} {ta : TE} {t : TA}
theorem pe_mtA {pl : Sem Bool} (c : ∀ κ, C.av κ → ∃ k, k ≤ j ∧ C8.Met X.prog X.w X.K X.mg X.base k (C.of κ) m (sp κ) []) (hr : Room j X.A) (he : PE X o ta) (ha : PA X (e :: es) t)
    (hst : starEach (e :: es) X.env = (false, eval e X.env) :: starEach es X.env := by rfl) (hpl : (backTo pos (starEach es X.env)).any (·.1) = false := by rfl)
    (ht : eval (.Call (.Attribute o m apos) (e :: es) [] pos) X.env = (do
      let ov ← eval o X.env
      standAt apos.atName
      let (f, first) ← holding [ov] (getMethod ov m pl)
      callWith pos f first (backTo pos (starEach (e :: es) X.env)) (backToKw pos (keywordEach [] X.env))) := by rfl) :
    PE X (.Call (.Attribute o m apos) (e :: es) [] pos) (tMethA C m sp C8.E0 ta t) := by
  refine ⟨fun pins s σ H Q I h => ?_⟩
  refine PySem.W.methodCall_KW (pl := pl) (thn (he.run pins s σ H _ I h) fun u s1 ⟨x, H1, I1, rx, κ, a, dx, fs, hav, ex, ea, l, q⟩ => ?_) ht
  subst ex
  obtain rfl : u = Value.ref a := rx
  obtain ⟨k, hk, cm⟩ := c κ hav
  obtain ⟨f, fd, ps, ds, hc, hm, F, b, d⟩ := cm.ex
  refine getmeth_ok I1 ea hc hm l ?_
  refine PySem.W.callWith_K (first := [.ref a]) (h₀ := X.base) I.ok.mod.kin hm.kp (thn (ha.run pos pins s1 σ H1 _ I1 q) fun us s2 ⟨vs, H2, I2, r, q2⟩ => ⟨I2.kIn, ?_⟩) hst hpl
  exact run_fn (us := .ref a :: us) (vs := .ref a :: vs) (dvs := []) (E := C8.E0) F (hr.mono hk) b d C8.pass0 I2 (.cons rfl r) (by rw [List.append_nil]; exact q2)
end
section
variable {K : PySem.W.Frag} {σ : L2.St} {H : Hp} {Q : VK} {ta : TE} {tr : TA} {E : XK} {a dx : Addr} {C : Cl} {sp : Kd → Sp}
def kMethA (C : Cl) (m : Str) (sp : Kd → Sp) (E : XK) (tr : TA) (σ : L2.St) (Q : VK) : VK := fun x H1 => ∃ κ a dx fs, C.av κ ∧ x = .ref a ∧ H1 a = some (.ins (C.of κ) dx fs) ∧ fs.lookup m = none ∧ tr σ H1 fun vs H2 => sp κ (x :: vs) H2 Q E
theorem c_methA {m : Str} (k : ta σ H (kMethA C m sp E tr σ Q)) : tMethA C m sp E ta tr σ H Q := k
theorem c_kMethA {m : Str} (κ : Kd) {fs : List (Str × V)} (hav : C.av κ) (h : H a = some (.ins (C.of κ) dx fs)) (hl : fs.lookup m = none) (k : tr σ H fun us H2 => sp κ (.ref a :: us) H2 Q E) : kMethA C m sp E tr σ Q (.ref a) H := ⟨κ, a, dx, fs, hav, rfl, h, hl, k⟩
end
/-! ### C() of a class without its own __init__ -/
structure MkO (K : PySem.W.Frag) (mg : Str → Option Value) (x : Str) (C : Addr) : Prop where
  mgx : mg x = some (.ref C)
  makes : PySem.W.makesIn K C = true
  init : PySem.W.findIn K (.ref C) "__init__" = some (some (.builtin "object.__init__"))
  kp : PySem.W.keepIn K (.ref C) = true
def tMakeO (C : Addr) : TE := fun _ H Q => ∀ x dx, H x = none → H dx = none → dx ≠ x → Q (.ref x) (upd (upd H dx (.own x)) x (.ins C dx []))
theorem pe_makeO {X : Cx} {x : Str} {C : Addr} {p pos : Pos} (M : MkO X.K X.mg x C) (hg : Gl X x) (hdb : (x == ("__debug__" : Str)) = false := by decide) : PE X (.Call (.Name x p) [] [] pos) (tMakeO C) := by
  refine ⟨fun pins s σ H Q I h => ?_⟩
  refine wpAny_Call_Name_kw (ld_glob I hg M.mgx ?_ hdb)
  refine PySem.W.callWith_K0 (first := []) I.kIn M.kp ?_
  have hq := h (s.heap.objs.size + 1) s.heap.objs.size (I.hok.fresh (Nat.le_succ _)) (I.hok.fresh (Nat.le_refl _)) (Nat.ne_of_lt (Nat.lt_succ_self _))
  have I2 := Inv.made (C := C) I
  refine wpAny_call (make_map0 I.kIn M.makes M.init (fun self => PySem.W.Looks.of_pure (PySem.W.oi_bind self)) ?_)
  have e2 : ((s.heap.push PySem.W.emptyDict).push (PySem.W.instObj C s.heap.objs.size)).get? (s.heap.objs.size + 1) = some (PySem.W.instObj C s.heap.objs.size) := by
    have := Heap.get?_push_size (s.heap.push PySem.W.emptyDict) (o := PySem.W.instObj C s.heap.objs.size) rfl
    rwa [Heap.size_push] at this
  have Y := PySem.W.makes_of (M := model X.prog X.w) I.kIn M.makes
  have t1 : PySem.W.Looks (model X.prog X.w) ((s.heap.push PySem.W.emptyDict).push (PySem.W.instObj C s.heap.objs.size)) (typeOf (.ref (s.heap.objs.size + 1))) (.ref C) := (PySem.W.Looks.ld e2).andThen .now
  have t2 : PySem.W.Looks (model X.prog X.w) ((s.heap.push PySem.W.emptyDict).push (PySem.W.instObj C s.heap.objs.size)) (isInstance (.ref (s.heap.objs.size + 1)) (.type "object")) true := t1.andThen (Y.top.keeps fun b o e => Heap.get?_push_of_some _ (Heap.get?_push_of_some _ e))
  refine codeAny_call_builtin PySem.W.oi_plain PySem.W.entry_oi (@PySem.W.check_slot (model X.prog X.w) _ _ _ "object.__init__" "object" "__init__" (.ref (s.heap.objs.size + 1)) [] [] _ PySem.W.oi_kind PySem.W.oi_split t2 (PySem.W.oi_args (.ref (s.heap.objs.size + 1))) ?_)
  rw [PySem.W.oi_run]
  exact wpAny_pure (And.intro rfl ⟨V.ref (s.heap.objs.size + 1), _, I2, rfl, hq⟩)
theorem c_makeO {σ : L2.St} {H : Hp} {Q : VK} {C : Addr} (k : ∀ x dx H', H x = none → Same H H' → H' x = some (.ins C dx []) → Q (.ref x) H') : tMakeO C σ H Q := fun x dx hx hd hne => k x dx _ hx ((same_upd hd).trans (same_upd (by rw [upd_ne (Ne.symm hne)]; exact hx))) upd_same
end Rf

set_option Elab.async false
set_option linter.all false
set_option maxRecDepth 100000
set_option maxHeartbeats 4000000
/-! Rf, part 3: texts' methods by short names. -/
namespace Rf
open PySem PySem.Spec L2
def rStripS : V → List V → Hp → VK → Prop := fun x xs H Q => ∃ a b, x = .str a ∧ xs = [.str b] ∧ a.length ≤ sizeLine ∧ Q (.str (Txt.stripChars a b)) H
theorem mt_stripQ {X : Cx} : MtR X "str.strip" rStripS := mt_stripChars
def rCountS : V → List V → Hp → VK → Prop := fun x xs H Q => ∃ a b, x = .str a ∧ xs = [.str b] ∧ Q (.int (Txt.count a b)) H
theorem mt_countQ {X : Cx} : MtR X "str.count" rCountS := mt_count
def rJoinS (K : PySem.W.Frag) : V → List V → Hp → VK → Prop := fun x xs H Q => ∃ a p, ∃ ys : List Str, x = .str a ∧ xs = [.ref p] ∧ (SqL K H p (ys.map V.str) ∨ SqT K H p (ys.map V.str)) ∧
    (ys.map (·.length)).sum + ys.length * a.length ≤ 16777216 ∧ Q (.str (Txt.join a ys)) H
theorem mt_joinQ {X : Cx} : MtR X "str.join" (rJoinS X.K) := mt_join
def rSplitS : V → List V → Hp → VK → Prop := fun x xs H Q => ∃ a b, x = .str a ∧ xs = [.str b] ∧ (b.length == 0) = false ∧ a.length + 2 ≤ sizeLine ∧ kNew (.lst ((Txt.split a b).map V.str)) Q H
theorem mt_splitQ {X : Cx} : MtR X "str.split" rSplitS := mt_split
section
variable {K : PySem.W.Frag} {H : Hp} {Q : VK} {a : Addr} {w u : Str}
theorem c_stripS (h : w.length ≤ 1000000) (k : Q (.str (Txt.stripChars w u)) H) : rStripS (.str w) [.str u] H Q := ⟨w, u, rfl, rfl, sz h, k⟩
theorem c_countS (k : Q (.int (Txt.count w u)) H) : rCountS (.str w) [.str u] H Q := ⟨w, u, rfl, rfl, k⟩
theorem c_joinS {ys : List Str} (h : SqL K H a (ys.map V.str)) (hz : (ys.map (·.length)).sum + ys.length * w.length ≤ 16777216) (k : Q (.str (Txt.join w ys)) H) : rJoinS K (.str w) [.ref a] H Q := ⟨w, a, ys, rfl, rfl, .inl h, hz, k⟩
theorem c_splitS (h0 : (u.length == 0) = false) (hz : w.length ≤ 1000000) (k : ∀ p H', H p = none → Same H H' → H' p = some (.lst ((Txt.split w u).map V.str)) → Q (.ref p) H') : rSplitS (.str w) [.str u] H Q :=
  ⟨w, u, rfl, rfl, h0, Nat.le_trans (Nat.add_le_add_right hz 2) (by decide), c_new k⟩
end
end Rf

set_option Elab.async false
set_option linter.all false
set_option maxRecDepth 100000
set_option maxHeartbeats 4000000
/-! Rf, part 3b: == of lists, in, ranges of naturals. -/
namespace Rf
open PySem PySem.Spec L2
/-- values that are data: f to the values, g to the data; == of them is equality -/
structure Leaf {α : Type} [DecidableEq α] (f : α → V) (g : α → PyData) : Prop where
  dp : ∀ (K : PySem.W.Frag) (H : Hp) (x : α), Dp K H (f x) (g x)
  eqv : ∀ a b : α, PyData.eqv (g a) (g b) = decide (a = b)
  lay : ∀ a : α, (g a).canLay0 = true
  dep : ∀ a : α, (g a).depth = 0
theorem leaf_int : Leaf V.int PyData.int := ⟨fun _ _ x => .int x, fun a b => by simp only [PyData.eqv]; by_cases h : a = b <;> simp [h], fun _ => rfl, fun _ => rfl⟩
theorem leaf_nat : Leaf vN (fun n => PyData.int (n : Int)) := ⟨fun _ _ x => .int _, fun a b => by
  simp only [PyData.eqv]
  by_cases h : a = b
  · subst h; simp
  · have h' : ¬ (a : Int) = (b : Int) := by omega
    simp [h, h'], fun _ => rfl, fun _ => rfl⟩
theorem leaf_bl : Leaf V.bl PyData.bool := ⟨fun _ _ x => .bl x, fun a b => by simp only [PyData.eqv]; cases a <;> cases b <;> rfl, fun _ => rfl, fun _ => rfl⟩
section
variable {α : Type} [DecidableEq α] {f : α → V} {g : α → PyData} {K : PySem.W.Frag} {H : Hp} {Q : VK} {a b : Addr}
theorem eqvAll_map (L : Leaf f g) : ∀ xs ys : List α, PyData.eqvAll (xs.map g) (ys.map g) = decide (xs = ys)
  | [], [] => rfl
  | [], _ :: _ => rfl
  | _ :: _, [] => rfl
  | x :: xs, y :: ys => by
    rw [List.map_cons, List.map_cons]
    simp only [PyData.eqvAll]
    rw [L.eqv, eqvAll_map L xs ys]
    by_cases h : x = y <;> by_cases h2 : xs = ys <;> simp [h, h2]
theorem layAll_map (L : Leaf f g) : ∀ xs : List α, PyData.canLayAll0 (xs.map g) = true
  | [] => rfl
  | x :: xs => by
    rw [List.map_cons]
    simp only [PyData.canLayAll0]
    rw [L.lay, layAll_map L xs]
    rfl
theorem depAll_map (L : Leaf f g) : ∀ xs : List α, PyData.depthAll (xs.map g) = 0
  | [] => rfl
  | x :: xs => by
    rw [List.map_cons]
    simp only [PyData.depthAll]
    rw [L.dep, depAll_map L xs]
    rfl
theorem dpAll_map (L : Leaf f g) : ∀ xs : List α, DpAll K H (xs.map f) (xs.map g)
  | [] => .nil
  | x :: xs => .cons (L.dp K H x) (dpAll_map L xs)
theorem shaped_map (L : Leaf f g) (xs : List α) : SeqAt.shaped (.list (xs.map g)) = true := by
  have h1 : (PyData.list (xs.map g)).canLay0 = true := by simp only [PyData.canLay0]; exact layAll_map L xs
  have h2 : (PyData.list (xs.map g)).depth ≤ 64 := by simp only [PyData.depth]; rw [depAll_map L]; decide
  unfold SeqAt.shaped
  rw [h1, decide_eq_true h2]
  rfl
theorem c_eqLst (L : Leaf f g) {xs ys : List α} (h : SqL K H a (xs.map f)) (h' : SqL K H b (ys.map f)) (k : Q (.bl (decide (xs = ys))) H) : rEqD K (.ref a) (.ref b) H Q := by
  refine ⟨.list (xs.map g), .list (ys.map g), .lst h (dpAll_map L xs), .lst h' (dpAll_map L ys), shaped_map L xs, shaped_map L ys, ?_⟩
  show Q (.bl (PyData.eqvAll (xs.map g) (ys.map g))) H
  rw [eqvAll_map L]
  exact k
theorem c_neLst (L : Leaf f g) {xs ys : List α} (h : SqL K H a (xs.map f)) (h' : SqL K H b (ys.map f)) (k : Q (.bl (!decide (xs = ys))) H) : rNeD K (.ref a) (.ref b) H Q := by
  refine ⟨.list (xs.map g), .list (ys.map g), .lst h (dpAll_map L xs), .lst h' (dpAll_map L ys), shaped_map L xs, shaped_map L ys, ?_⟩
  show Q (.bl (!PyData.eqvAll (xs.map g) (ys.map g))) H
  rw [eqvAll_map L]
  exact k
end
section
variable {K : PySem.W.Frag} {H : Hp} {Q : VK} {a b : Addr} {x : V} {xs : List V}
/-- != of an empty list and another list -/
theorem c_neNil (h : SqL K H a []) (h' : SqL K H b []) (k : Q (.bl false) H) : rNeD K (.ref a) (.ref b) H Q := c_neLst leaf_int (xs := []) (ys := []) h h' k
theorem c_inT {q : Bool} (h : SqT K H a xs) (hx : flatV x = true) (hs : xs.all flatV = true) (e : inV x xs = q) (k : Q (.bl q) H) : rIn K false x (.ref a) H Q := ⟨a, xs, rfl, .inr h, hx, hs, by rw [e]; exact k⟩
theorem c_ninT {q : Bool} (h : SqT K H a xs) (hx : flatV x = true) (hs : xs.all flatV = true) (e : inV x xs = q) (k : Q (.bl (!q)) H) : rIn K true x (.ref a) H Q := ⟨a, xs, rfl, .inr h, hx, hs, by rw [e]; exact k⟩
theorem c_inL {q : Bool} (h : SqL K H a xs) (hx : flatV x = true) (hs : xs.all flatV = true) (e : inV x xs = q) (k : Q (.bl q) H) : rIn K false x (.ref a) H Q := ⟨a, xs, rfl, .inl h, hx, hs, by rw [e]; exact k⟩
theorem c_ninL {q : Bool} (h : SqL K H a xs) (hx : flatV x = true) (hs : xs.all flatV = true) (e : inV x xs = q) (k : Q (.bl (!q)) H) : rIn K true x (.ref a) H Q := ⟨a, xs, rfl, .inl h, hx, hs, by rw [e]; exact k⟩
theorem flat_nat (os : List Nat) : (os.map vN).all flatV = true := by
  rw [List.all_eq_true]
  intro v hv
  obtain ⟨n, _, rfl⟩ := List.mem_map.mp hv
  rfl
theorem inV_nat (n : Nat) (os : List Nat) : inV (vN n) (os.map vN) = decide (n ∈ os) := by
  unfold inV
  rw [Bool.eq_iff_iff, List.any_eq_true, decide_eq_true_eq]
  constructor
  · rintro ⟨v, hv, e⟩
    obtain ⟨m, hm, rfl⟩ := List.mem_map.mp hv
    have e : ((m : Int) == (n : Int)) = true := e
    have : m = n := by have := beq_iff_eq.mp e; omega
    exact this ▸ hm
  · intro h
    exact ⟨vN n, List.mem_map.mpr ⟨n, h, rfl⟩, by show ((n : Int) == (n : Int)) = true; exact beq_self_eq_true _⟩
theorem c_inN {n : Nat} {os : List Nat} (h : SqL K H a (os.map vN)) (k : Q (.bl (decide (n ∈ os))) H) : rIn K false (vN n) (.ref a) H Q := c_inL h rfl (flat_nat os) (inV_nat n os) k
theorem c_ninN {n : Nat} {os : List Nat} (h : SqL K H a (os.map vN)) (k : Q (.bl (!decide (n ∈ os))) H) : rIn K true (vN n) (.ref a) H Q := c_ninL h rfl (flat_nat os) (inV_nat n os) k
theorem rgI_nat (n : Nat) : (rgI 0 (n : Int)).map V.int = (List.range n).map vN := by
  unfold rgI
  have e : ((n : Int) - 0).toNat = n := by omega
  rw [e, List.map_map]
  refine List.map_congr_left fun i _ => ?_
  show V.int (0 + (i : Int)) = V.int (i : Int)
  rw [Int.zero_add]
theorem rgI_nat2 (m n : Nat) : (rgI (m : Int) (n : Int)).map V.int = ((List.range n).drop m).map vN := by
  unfold rgI
  have e : ((n : Int) - (m : Int)).toNat = n - m := by omega
  rw [e, List.map_map]
  refine List.ext_getElem (by simp) fun i h1 h2 => ?_
  simp
theorem c_kRgN {n : Nat} (hn : n ≤ 1000000) (k : ∀ p H', H p = none → Same H H' → H' p = some (.lst ((List.range n).map vN)) → Q (.ref p) H') : kRg Q 0 (n : Int) H :=
  c_kRg (by omega) (by omega) (by rw [rgI_nat]; exact k)
theorem c_kRgN2 {m n : Nat} (hn : n ≤ 1000000) (hm : m ≤ 1000000) (k : ∀ p H', H p = none → Same H H' → H' p = some (.lst (((List.range n).drop m).map vN)) → Q (.ref p) H') : kRg Q (m : Int) (n : Int) H :=
  c_kRg (by omega) (by omega) (by rw [rgI_nat2]; exact k)
end
end Rf

set_option Elab.async false
set_option linter.all false
set_option maxRecDepth 100000
set_option maxHeartbeats 4000000
/-! Rf, part 3c: a number is none of some instances without an __eq__ of their own. -/
namespace RfE
open PySem PySem.Spec PyProof.Rows PySem.SeqAt
open AutoSeq1 (wpAny_loadPart')
open MeetsSeq MeetsSeq2 MeetsSeq3 SeqRoads2
section
variable {M : Model} {prog : Program} {w : World} {A : Around} {E : Value → Shared → Prop} {s : Shared} {K : PySem.W.Frag} {x C : Addr} {ox : Obj} {od : Option Obj} {b : Int} {u : Tok}
theorem isSame_int {R : Bool → Shared → Prop} (h : R false s) : wpAny M A (isSame (.ref x) (.int b u)) R E s := wpAny_of_eq (rfl : isSame (.ref x) (.int b u) = pure false) h
theorem entry_int {Q : Fin → Shared → Prop} (hq : Q (.done (.ret .notImplemented)) s) : wpAny M A (Builtin.«object.__eq__» ⟨[.ref x, .int b u], []⟩) Q E s := by
  unfold Builtin.«object.__eq__»
  repeat (first | with_reducible refine isSame_int ?_ | wp_step)
  exact hq
theorem call_objEq {Q : Value → Shared → Prop} (X : K.In s.heap) (I : PySem.W.InstAt s.heap x ox C od) (hm : PySem.W.mroIn K C (.type "object") = some true) (hq : Q .notImplemented s) :
    wpAny (model prog w) A (call (.builtin "object.__eq__") [.ref x, .int b u]) Q E s :=
  wpAny_call (codeAny_call_builtin F.cmp_object.eq.plain F.cmpEntry_eq (PySem.W.check_slot F.cmpKind_eq F.cmpSplit_eq (I.type.andThen (PySem.W.looks_mroIn X hm)) (F.cmpArgs_eq _ _) (entry_int hq)))
theorem sub_int : PySem.W.subIn K (.type "int") (.ref C) = some false := by
  have e : fastBuiltinMro "int" = some [.type "int", .type "object"] := by decide +kernel
  show (fastBuiltinMro "int").map (·.contains (.ref C)) = some false
  rw [e]
  first
    | rfl
    | simp
theorem int_eq_declines_inst (b : Int) (u : Tok) (l : Addr) (c : Value) (dd : Option Addr) (sl : Array (Option Value)) :
    Meets (Builtin.«int.__eq__» ⟨[.int b u, .ref l], []⟩) (fun _ R s => s.heap.get? l = some { cls := c, dict := dd, data := .plain, slots := sl } ∧ R (.ok (.ret .notImplemented)) s) :=
  .of_wp fun prog w A R s h => by obtain ⟨hp, g, d, tk, os⟩ := s; obtain ⟨hl, h⟩ := h; wp_walk using wpAny_loadPart' hl, wpAny_load hl; exact ⟨_, rfl, h⟩
theorem rc_int {dx : Addr} (hu : A.units < cLine) (X : K.In s.heap) (ho : s.heap.get? x = some (PySem.W.instObj C dx)) (I : PySem.W.InstAt s.heap x ox C od) (hm : PySem.W.mroIn K C (.type "object") = some true) (hs : PySem.W.findIn K (.ref C) "__eq__" = some (some (.builtin "object.__eq__"))) :
    RcAt A s (.ref x) (.int b u) false := fun prog w E Q h => by
  have one : wpAny (model prog w) A (tryCompare (.ref x) "__eq__" (.int b u)) (fun r s' => r = none ∧ s' = s) E s := by
    unfold tryCompare
    exact wpAny_bind (HN.ifBound_objEq X I hs (call_objEq X I hm (wpAny_pure ⟨rfl, rfl⟩)))
  have two : wpAny (model prog w) A (tryCompare (.int b u) "__eq__" (.ref x)) (fun r s' => r = none ∧ s' = s) E s :=
    wpAny_tryCompare_declines (typeIs_int s b u) F.slot_int_eq_refl (call_meets F.slot_int_eq_refl (typeIs_int s b u) F.entry_int_eq (F.args_int_eq_2 _ _) (int_eq_declines_inst b u x (.ref C) (some dx) #[]) ⟨ho, ⟨rfl, rfl, rfl⟩⟩)
  simp only [richCompare, cmpInfo_Eq, oneThing_ref]
  refine wpAny_holding (wpAny_bind (wpAny_cRoomFor hu ?_))
  refine wpAny_bind (I.type.here ?_)
  refine wpAny_bind (wpAny_typeOf (typeIs_int s b u) ?_)
  split
  · refine wpAny_bind ((PySem.W.looks_subIn X sub_int).here ?_)
    simp only [Bool.false_eq_true, if_false, Bool.not_false, if_true]
    refine wpAny_bind (m := tryCompare (.ref x) _ (.int b u)) (wpAny_mono one (fun r s1 z => ?_) fun _ _ e => e)
    obtain ⟨z1, z2⟩ := z
    subst z1
    subst z2
    refine wpAny_bind (m := tryCompare (.int b u) _ (.ref x)) (wpAny_mono two (fun r s2 z => ?_) fun _ _ e => e)
    obtain ⟨z1, z2⟩ := z
    subst z1
    subst z2
    exact wpAny_bind (wpAny_rule (wpAny_bind (wpAny_of_eq (rfl : isSame (.ref x) (.int b u) = pure false) (wpAny_pure h))))
  · rename_i q
    exact absurd (by simp) q
theorem eqAt_int {dx : Addr} (hu : A.units < cLine) (X : K.In s.heap) (ho : s.heap.get? x = some (PySem.W.instObj C dx)) (I : PySem.W.InstAt s.heap x ox C od) (hm : PySem.W.mroIn K C (.type "object") = some true) (hs : PySem.W.findIn K (.ref C) "__eq__" = some (some (.builtin "object.__eq__"))) :
    EqAt A s (.ref x) (.int b u) false := fun prog w E Q h => by
  unfold eqBool
  refine wpAny_holding ?_
  refine wpAny_ite_split (fun hab => absurd (eq_of_beq hab) nofun) (fun _ => ?_)
  exact wpAny_bind (rc_int hu X ho I hm hs prog w E _ (wpAny_truthy_bool h))
end
end RfE
namespace Rf
open PySem PySem.Spec L2
/-- an instance without an __eq__ of its own -/
def InsE (K : PySem.W.Frag) (H : Hp) (z : V) : Prop := ∃ a C dx fs, z = .ref a ∧ H a = some (.ins C dx fs) ∧ PySem.W.mroIn K C (.type "object") = some true ∧ PySem.W.findIn K (.ref C) "__eq__" = some (some (.builtin "object.__eq__"))
def rIntInI (K : PySem.W.Frag) : R2 := fun x y H Q => ∃ p xs k, x = .int k ∧ y = .ref p ∧ SqL K H p xs ∧ (∀ z ∈ xs, InsE K H z) ∧ Q (.bl false) H
section
variable {X : Cx}
theorem mem_inse {A : Around} {pins : List (Addr × Obj)} {σ : L2.St} {H : Hp} {s : Shared} {k : Int} {t : Tok} (I : Inv X pins σ H s) (hu : A.units < cLine) : ∀ {xs : List V} {us : List Value}, Vals xs us → (∀ z ∈ xs, InsE X.K H z) → ∀ u ∈ us, SeqAt.EqAt A s u (.int k t) false
  | _, _, .nil, _ => fun u hu' => by cases hu'
  | y :: xs, u :: us, .cons r t', f => fun u' hu' => by
    rcases List.mem_cons.mp hu' with e | hu'
    · subst e
      obtain ⟨a, C, dx, fs, rfl, ha, hm, hs⟩ := f y (List.mem_cons_self ..)
      cases r
      obtain ⟨mA, O, _⟩ := ins_get I.hok ha
      obtain ⟨od, J, _⟩ := O.look
      obtain ⟨_, _, _, ho, _⟩ := I.hok a _ ha
      exact RfE.eqAt_int hu I.kIn ho J hm hs
    · exact mem_inse I hu t' (fun z hz => f z (List.mem_cons_of_mem _ hz)) u' hu'
theorem op_intInI (hu : X.A.units + 64 < cLine) : OpR X (compareOp .In) (rIntInI X.K) := by
  intro pins s σ H x y v u Q I rx ry h
  obtain ⟨p, xs, k, rfl, rfl, hq, f, q⟩ := h
  obtain ⟨t, rfl⟩ := rx
  cases ry
  obtain ⟨its, rv, hl, _⟩ := I.list hq
  have hu1 : X.A.in1.units < cLine := by show X.A.units + 1 < cLine; omega
  refine SeqAt.in_listAt (fun _ => false) hl.isList (fun z hz => mem_inse I hu1 rv f z (by simpa using hz)) ⟨.bl false, H, I, ?_, q⟩
  have e : its.toArray.any (fun _ => false) = false := by simp
  rw [e]
  rfl
theorem c_intInI {K : PySem.W.Frag} {H : Hp} {Q : VK} {p : Addr} {xs : List V} {k : Int} (h : SqL K H p xs) (f : ∀ z ∈ xs, InsE K H z) (kk : Q (.bl false) H) : rIntInI K (.int k) (.ref p) H Q := ⟨p, xs, k, rfl, rfl, h, f, kk⟩
end
end Rf

set_option Elab.async false
set_option linter.all false
set_option maxRecDepth 100000
set_option maxHeartbeats 4000000
/-! Rf, part 4: moves as data, what the defs compute, promises. -/
namespace Rf
open PySem PySem.Spec L2 Rm
/-! ### moves -/
inductive Mv
  | cut (n : Nat) | turn | deal (n : Nat) | under | weave (f : Nat) | riffle (w : List Bool)
  deriving DecidableEq
def Mv.kd : Mv → Kd
  | .cut _ => .cut | .turn => .turn | .deal _ => .deal | .under => .under | .weave _ => .weave | .riffle _ => .riffle
def Mv.Ok : Mv → Prop
  | .cut n => n ≤ 60 | .turn => True | .deal n => 1 ≤ n ∧ n ≤ 60 | .under => True | .weave f => f ≤ 1 | .riffle w => 1 ≤ w.length ∧ w.length ≤ 60
/-- a word's text -/
def wS (w : List Bool) : Str := ⟨(w.map fun b => if b then 97 else 98).toArray⟩
def Mv.fs : Mv → List (Str × V)
  | .cut n => [("many", vN n)] | .turn => [] | .deal n => [("piles", vN n)] | .under => [] | .weave f => [("first", vN f)] | .riffle w => [("word", .str (wS w))]
/-- at p stands the move m -/
def MvAt (C : Cl) (H : Hp) (p : Addr) (m : Mv) : Prop := C.av m.kd ∧ m.Ok ∧ ∃ dx, H p = some (.ins (C.of m.kd) dx m.fs)
/-- the pack can take it -/
def Mv.Fits : Mv → Nat → Prop
  | .cut k, n => k ≤ n | .weave _, n => n % 2 = 0 | .riffle w, n => w.length = n | _, _ => True
/-! ### places that the cards come from -/
def cameF : Mv → Nat → List Nat
  | .cut k, n => cutCame k n | .turn, n => (List.range n).reverse | .deal p, n => dealCame p n | .under, n => underCame n | .weave f, n => weaveCame f n | .riffle w, _ => riffCame w
/-- the order behind a move -/
def doneF (m : Mv) (os : List Nat) : List Nat := pick (cameF m os.length) os
/-- an order -/
def Ord (os : List Nat) : Prop := 1 ≤ os.length ∧ os.length ≤ 60 ∧ IsP os.length os
/-- what the top has written of the moves' classes -/
structure CF (K : PySem.W.Frag) (C : Cl) : Prop where
  cls : ∀ κ, C.av κ → Cls K (C.of κ)
  nMany : C.av .cut → NoAttr K C.cCut "many"
  nPiles : C.av .deal → NoAttr K C.cDeal "piles"
  nFirst : C.av .weave → NoAttr K C.cWeave "first"
  nWord : C.av .riffle → NoAttr K C.cRiffle "word"
  ty : ∀ κ, C.av κ → ∀ (H : Hp) (a dx : Addr) (fs : List (Str × V)), H a = some (.ins (C.of κ) dx fs) → TyX K H (.ref a) (.ref (C.of κ))
  kit : ∀ κ κ', C.av κ → C.pr κ' → PySem.W.kitOne K (.ref (C.of κ)) (.ref (C.of κ')) = some (decide (κ = κ'))
  avpr : ∀ κ, C.av κ → C.pr κ
  eqo : ∀ κ, C.av κ → PySem.W.mroIn K (C.of κ) (.type "object") = some true ∧ PySem.W.findIn K (.ref (C.of κ)) "__eq__" = some (some (.builtin "object.__eq__"))
  kitM : ∀ κ, C.av κ → PySem.W.kitOne K (.ref (C.of κ)) (.ref C.cMove) = some true
theorem ne_abs {a b : Addr} {R : Prop} (h : (a == b) = false) (e : a = b) : R := by
  subst e
  simp at h
theorem kit_mk {K : PySem.W.Frag} {c d : Addr} {b : Bool} (h1 : PySem.W.isClsIn K d = true) (h2 : PySem.W.typeIn K (.ref d) = some (.type "type")) (h3 : PySem.W.subIn K (.ref c) (.ref d) = some b) (hb : c = d → b = true) : PySem.W.kitOne K (.ref c) (.ref d) = some b := by
  unfold PySem.W.kitOne
  by_cases e : c = d
  · subst e
    rw [hb rfl, if_pos (by simp)]
  · have e1 : ((Value.ref c) == (Value.ref d)) = false := by simpa using e
    have h1' : (PySem.W.clsIn K d).isSome = true := h1
    rw [e1, if_neg Bool.false_ne_true]
    show (if ((PySem.W.clsIn K d).isSome && PySem.W.typeIn K (.ref d) == some (.type "type")) = true then PySem.W.subIn K (.ref c) (.ref d) else none) = some b
    rw [h1', h2, if_pos (by simp)]
    exact h3
/-! ### promises -/
/-- a value, all else as it was -/
def RetV (v : V) (H : Hp) (Q : VK) : Prop := ∀ H', Same H H' → Q v H'
/-- a new list -/
def RetL (xs : List V) (H : Hp) (Q : VK) : Prop := ∀ p H', H p = none → Same H H' → H' p = some (.lst xs) → Q (.ref p) H'
def sp_p_within (K : PySem.W.Frag) (C : Cl) : Sp := fun vs H Q _ => ∃ n lo hi : Int, vs = [.int n, .int lo, .int hi] ∧ Q (.bl (decide (lo ≤ n ∧ n ≤ hi))) H
def sp_p_check_order (K : PySem.W.Frag) (C : Cl) : Sp := fun vs H Q _ => ∃ (a : Addr) (os : List Nat), vs = [.ref a] ∧ SqL K H a (os.map vN) ∧ Ord os ∧ Q .non H
def sp_l_cell_at (K : PySem.W.Frag) (C : Cl) : Sp := fun vs H Q _ => ∃ (a : Addr) (ns : List Int) (k : Int), vs = [.ref a, .int k] ∧ SqL K H a (ns.map V.int) ∧ 0 ≤ k ∧ Q (.int (ns.getD k.toNat 0)) H
def primes : List Int := [1000003, 1000033, 1000037, 1000039, 1000081, 1000099, 1000117, 1000121, 1000133, 1000151, 1000159, 1000171, 1000183, 1000187, 1000193, 1000199]
def drawF (c k m : Int) : Nat := ((c * 48271 + k * 69621) % primes.getD (k % 16).toNat 1 % m).toNat
theorem drawF_lt {c k m : Int} (h : 0 < m) : drawF c k m < m.toNat := by
  unfold drawF
  have h1 := Int.emod_nonneg ((c * 48271 + k * 69621) % primes.getD (k % 16).toNat 1) (show m ≠ 0 by omega)
  have h2 := Int.emod_lt_of_pos ((c * 48271 + k * 69621) % primes.getD (k % 16).toNat 1) h
  omega
def sp_l_draw (K : PySem.W.Frag) (C : Cl) : Sp := fun vs H Q _ => ∃ c k m : Int, vs = [.int c, .int k, .int m] ∧ 0 ≤ k ∧ k ≤ 1000000 ∧ 0 < m ∧ RetV (vN (drawF c k m)) H Q
def sp_came (K : PySem.W.Frag) (C : Cl) : Kd → Sp := fun κ vs H Q _ => ∃ (p : Addr) (m : Mv) (n : Nat), vs = [.ref p, vN n] ∧ m.kd = κ ∧ MvAt C H p m ∧ 1 ≤ n ∧ n ≤ 60 ∧ m.Fits n ∧ RetL ((cameF m n).map vN) H Q
def sp_done (K : PySem.W.Frag) (C : Cl) : Kd → Sp := fun κ vs H Q _ => ∃ (p a : Addr) (m : Mv) (os : List Nat), vs = [.ref p, .ref a] ∧ m.kd = κ ∧ MvAt C H p m ∧ SqL K H a (os.map vN) ∧ Ord os ∧ m.Fits os.length ∧ RetL ((doneF m os).map vN) H Q
/-- C(x): the one field stored -/
def spInit (cls : Addr) (f : Str) (ok : V → Prop) : Sp := fun vs H Q _ => ∃ (p dx : Addr) (v : V), vs = [.ref p, v] ∧ H p = some (.ins cls dx []) ∧ ok v ∧ ∀ H', But p H H' → H' p = some (.ins cls dx [(f, v)]) → Q .non H'
def sp_p_Cut_init (K : PySem.W.Frag) (C : Cl) : Sp := spInit C.cCut "many" fun v => ∃ n : Nat, v = vN n ∧ n ≤ 60
def sp_p_Deal_init (K : PySem.W.Frag) (C : Cl) : Sp := spInit C.cDeal "piles" fun v => ∃ n : Nat, v = vN n ∧ 1 ≤ n ∧ n ≤ 60
def sp_p_Weave_init (K : PySem.W.Frag) (C : Cl) : Sp := spInit C.cWeave "first" fun v => ∃ n : Nat, v = vN n ∧ n ≤ 1
def sp_p_Riffle_init (K : PySem.W.Frag) (C : Cl) : Sp := spInit C.cRiffle "word" fun v => ∃ w : List Bool, v = .str (wS w) ∧ 1 ≤ w.length ∧ w.length ≤ 60
/-- a list of moves -/
abbrev vZ (z : Addr × Mv) : V := .ref z.1
def Mvs (K : PySem.W.Frag) (C : Cl) (H : Hp) (a : Addr) (ms : List Mv) : Prop := ∃ zs : List (Addr × Mv), SqL K H a (zs.map vZ) ∧ zs.map (·.2) = ms ∧ ∀ z ∈ zs, MvAt C H z.1 z.2
def sp_p_check_moves (K : PySem.W.Frag) (C : Cl) : Sp := fun vs H Q _ => ∃ (a : Addr) (ms : List Mv), vs = [.ref a] ∧ Mvs K C H a ms ∧ Q .non H
def mvText : Mv → Str
  | .cut n => Str.ofString "cut " ++ Str.ofString (toString (n : Int)) | .turn => "turn" | .deal n => Str.ofString "deal " ++ Str.ofString (toString (n : Int)) | .under => "under"
  | .weave f => Str.ofString "weave " ++ Str.ofString (toString (f : Int)) | .riffle w => Str.ofString "riffle " ++ wS w
def routine (ms : List Mv) : Str := Txt.join "; " (ms.map mvText)
def sp_p_move_text (K : PySem.W.Frag) (C : Cl) : Sp := fun vs H Q _ => ∃ (p : Addr) (m : Mv), vs = [.ref p] ∧ MvAt C H p m ∧ Q (.str (mvText m)) H
def sp_p_written (K : PySem.W.Frag) (C : Cl) : Sp := fun vs H Q _ => ∃ (a : Addr) (ms : List Mv), vs = [.ref a] ∧ Mvs K C H a ms ∧ ms.length ≤ 1000 ∧ RetV (.str (routine ms)) H Q
def sp_p_brought (K : PySem.W.Frag) (C : Cl) : Sp := fun vs H Q _ => ∃ (n p : Nat), vs = [vN n, vN p] ∧ 2 ≤ n ∧ n ≤ 60 ∧ n % 2 = 0 ∧ p < n ∧
  ∀ q H' (zs : List (Addr × Mv)), H q = none → Same H H' → H' q = some (.lst (zs.map vZ)) → zs.map (·.2) = (bits p).map Mv.weave → (∀ z ∈ zs, MvAt C H' z.1 z.2) → Q (.ref q) H'
def sp_l_woven (K : PySem.W.Frag) (C : Cl) : Sp := fun vs H Q _ => ∃ (a : Addr) (os : List Nat) (f : Nat), vs = [.ref a, vN f] ∧ SqL K H a (os.map vN) ∧ os.length ≤ 60 ∧ os.length % 2 = 0 ∧ f ≤ 1 ∧ RetL ((pick (weaveCame f os.length) os).map vN) H Q
/-- the law's own: True comes out -/
def spLaw (K : PySem.W.Frag) : Sp := fun vs H Q _ => ∃ (a : Addr) (ns : List Int), vs = [.ref a] ∧ SqL K H a (ns.map V.int) ∧ ns.length ≤ 63 ∧ ∀ H', Q (.bl true) H'
def sp_law (K : PySem.W.Frag) (_ : Cl) : Sp := spLaw K
end Rf

set_option Elab.async false
set_option linter.all false
set_option maxRecDepth 100000
set_option maxHeartbeats 4000000
/-! Rf, part 3d: dicts by number keys, texts of two signs, texts grown, list.index of numbers. -/
namespace Rf
open PySem PySem.Spec L2
/-- a dict with number keys: what stands at each -/
def DictAt (H : Hp) (d : Addr) (n : Nat) (f : Int → Option V) : Prop := ∃ kvs : List (Key × V), H d = some (.dK kvs) ∧ kvs.length ≤ n ∧ ∀ i : Int, valV kvs (Sum.inl i : Key) = f i
theorem putK_len (kvs : List (Key × V)) (k : Key) (v : V) : (putK kvs k v).length ≤ kvs.length + 1 := by
  unfold putK
  split
  · rw [List.length_map]; exact Nat.le_succ _
  · rw [List.length_append]; exact Nat.le_refl _
section
variable {K : PySem.W.Frag} {σ : L2.St} {H : Hp} {Q : VK} {td ty tv ta : TE} {nx bk ct : L2.St → Hp → Prop} {rt : VK} {d a : Addr} {n : Nat} {f : Int → Option V} {v x y : V}
theorem dict_same {H' : Hp} (e : Same H H') (h : DictAt H d n f) : DictAt H' d n f := by
  obtain ⟨kvs, h1, h2, h3⟩ := h
  exact ⟨kvs, e _ _ h1, h2, h3⟩
theorem dict_but {H' : Hp} {l : Addr} (e : But l H H') (ne : d ≠ l) (h : DictAt H d n f) : DictAt H' d n f := by
  obtain ⟨kvs, h1, h2, h3⟩ := h
  exact ⟨kvs, e _ _ ne h1, h2, h3⟩
theorem c_dnew (k : ∀ p H', H p = none → Same H H' → H' p = some (.dK []) → Q (.ref p) H') : tDNewK σ H Q := fun p hp => k p _ hp (same_upd hp) upd_same
theorem dict_nil {p : Addr} (h : H p = some (.dK [])) : DictAt H p 0 (fun _ => none) := ⟨[], h, Nat.le_refl _, fun _ => rfl⟩
def kDGet2 (Q : VK) (x : V) : VK := fun y H2 => ∃ a v, x = .ref a ∧ DGet H2 a y (some v) ∧ Q v H2
theorem c_dget (k : td σ H fun x H1 => ty σ H1 (kDGet2 Q x)) : tDGet td ty σ H Q := k
theorem c_kDGet {i : Int} (h : DictAt H d n f) (hv : f i = some v) (k : Q v H) : kDGet2 Q (.ref d) (.int i) H := by
  obtain ⟨kvs, h1, h2, h3⟩ := h
  refine ⟨d, v, rfl, ?_, k⟩
  have := DGet.k (k := Sum.inl i) h1
  rw [h3, hv] at this
  exact this
def kDPut3 (nx : L2.St → Hp → Prop) (σ : L2.St) (v x : V) : VK := fun y H3 => ∃ a H4, x = .ref a ∧ DPut H3 a y v H4 ∧ nx σ H4
theorem c_dput (k : tv σ H fun v H1 => td σ H1 fun x H2 => ty σ H2 (kDPut3 nx σ v x)) : sDPut td ty tv ⟨nx, rt, bk, ct⟩ σ H := k
theorem c_kDPut {i : Int} (h : DictAt H d n f) (hn : n < 1000000) (k : ∀ H', But d H H' → DictAt H' d (n + 1) (fun j => if j = i then some v else f j) → nx σ H') : kDPut3 nx σ v (.ref d) (.int i) H := by
  obtain ⟨kvs, h1, h2, h3⟩ := h
  refine ⟨d, _, rfl, DPut.k (k := Sum.inl i) h1 (sz' (Nat.lt_of_le_of_lt h2 hn)), k _ but_upd ⟨_, upd_same, ?_, fun j => ?_⟩⟩
  · exact Nat.le_trans (putK_len _ _ _) (Nat.succ_le_succ h2)
  · rw [valV_put, h3]
    by_cases e : j = i
    · subst e; simp
    · have e' : ¬ (Sum.inl j : Key) = Sum.inl i := fun z => e (Sum.inl.inj z)
      simp [e, e']
theorem ip_addS {X : Cx} : PIp X .Add rAddS := iop_addS
/-! texts of the signs a and b -/
def sA : Str := Str.ofString "a"
def sB : Str := Str.ofString "b"
end
end Rf

set_option Elab.async false
set_option linter.all false
set_option maxRecDepth 100000
set_option maxHeartbeats 4000000
/-! Rf, part 5: words, lists of lists of numbers. -/
namespace Rf
open PySem PySem.Spec L2 Rm
/-! ### words -/
def cd (b : Bool) : Nat := if b then 97 else 98
/-- a sign -/
def sg (b : Bool) : V := .str ⟨#[cd b]⟩
theorem wS_list (w : List Bool) : (wS w).cps.toList = w.map cd := by
  unfold wS
  rfl
theorem wS_nil : wS [] = "" := rfl
theorem wS_snoc (w : List Bool) (b : Bool) : wS w ++ ⟨#[cd b]⟩ = wS (w ++ [b]) := by
  show Str.append (wS w) _ = _
  unfold Str.append wS
  congr 1
  rw [List.map_append]
  simp [cd]
theorem sg_a : sg true = .str "a" := rfl
theorem sg_b : sg false = .str "b" := rfl
theorem cnt_word (w : List Bool) : PyProof.Rows.cnt 97 (w.map cd) = (w.count true : Nat) := by
  induction w with
  | nil => rfl
  | cons b w ih =>
    rw [List.map_cons, PyProof.Rows.cnt_cons, ih]
    cases b
    · rw [List.count_cons_of_ne (show false ≠ true by decide)]
      show (0 : Int) + _ = _
      omega
    · rw [List.count_cons_self]
      show (1 : Int) + _ = _
      omega
theorem count_a (w : List Bool) : Txt.count (wS w) "a" = (w.count true : Nat) := by
  have := PyProof.Rows.count_cnt (wS w) 97
  rw [wS_list, cnt_word] at this
  exact this
theorem takeWhile_all {α : Type} (q : α → Bool) : ∀ l : List α, (∀ x ∈ l, q x = true) → l.takeWhile q = l
  | [], _ => rfl
  | a :: l, h => by rw [List.takeWhile_cons, if_pos (h a (List.mem_cons_self ..)), takeWhile_all q l fun x hx => h x (List.mem_cons_of_mem _ hx)]
theorem strip_ab (w : List Bool) : Txt.stripChars (wS w) "ab" = "" := by
  rw [Txt.stripChars, PySem.W.stripBy_eq]
  have h : (w.map cd).takeWhile (fun c => (Str.ofString "ab").cps.contains c) = w.map cd := by
    refine takeWhile_all _ _ fun c hc => ?_
    obtain ⟨b, _, rfl⟩ := List.mem_map.mp hc
    cases b <;> decide +kernel
  have hl : (w.map cd).length = (wS w).length := by
    have : (wS w).length = (wS w).cps.toList.length := by simp [Str.length]
    rw [this, wS_list]
  unfold PySem.W.stripped
  simp only [if_true, wS_list]
  show Builtin.Str.strSub (wS w) ((w.map cd).takeWhile (fun c => (Str.ofString "ab").cps.contains c)).length ((wS w).length - (((w.map cd).drop ((w.map cd).takeWhile (fun c => (Str.ofString "ab").cps.contains c)).length).reverse.takeWhile (fun c => (Str.ofString "ab").cps.contains c)).length) = Str.ofString ""
  rw [h, List.drop_length]
  show Builtin.Str.strSub (wS w) (w.map cd).length ((wS w).length - 0) = _
  rw [hl, Nat.sub_zero]
  unfold Builtin.Str.strSub
  simp [Str.length]
  rfl
section
variable {K : PySem.W.Frag} {σ : L2.St} {H : Hp} {Q : VK} {g : TG} {tb' : TS} {nx bk ct : L2.St → Hp → Prop} {rt : VK} {a b p q : Addr} {xs : List V}
theorem c_eqSg {b : Bool} (k : Q (.bl b) H) : rEq (sg b) (.str "a") H Q := by
  cases b
  · exact c_eqS k
  · exact c_eqS k
/-- over a word's signs -/
theorem l_forW {w : List Bool} (Pv : List Bool → L2.St → Hp → Prop) (h0 : Pv [] σ H)
    (hs : ∀ pre x post σ' H', w = pre ++ x :: post → Pv pre σ' H' → g (sg x) σ' H' fun σ2 H2 => tb' ⟨Pv (pre ++ [x]), rt, nx, Pv (pre ++ [x])⟩ σ2 H2) (hd : ∀ σ' H', Pv w σ' H' → nx σ' H') : kForS g tb' ⟨nx, rt, bk, ct⟩ σ (.str (wS w)) H := by
  refine ⟨wS w, rfl, fun i m σ' H' => m = w.length - i ∧ i ≤ w.length ∧ Pv (w.take i) σ' H', ⟨w.length, by simp, Nat.zero_le _, by rw [List.take_zero]; exact h0⟩, ?_⟩
  have hl : w.length = (wS w).cps.size := by rw [← Array.length_toList, wS_list, List.length_map]
  rintro i m σ' H' ⟨rfl, hi, p⟩
  by_cases hlt : i < w.length
  · refine .inr ⟨by show i < (wS w).cps.size; omega, Pv (w.take (i + 1)), fun σ2 H2 p' => ⟨w.length - (i + 1), by omega, rfl, hlt, p'⟩, fun y H2 hy => ?_⟩
    obtain ⟨rfl, c, hc, rfl⟩ := hy
    have hc' : (w.map cd)[i]? = some c := by rw [← wS_list, Array.getElem?_toList]; exact hc
    rw [List.getElem?_map] at hc'
    obtain ⟨b, hb, rfl⟩ := Option.map_eq_some_iff.mp hc'
    obtain ⟨post, e1, e2⟩ := take_mid hb
    rw [e2]
    exact hs _ b post σ' _ e1 p
  · have e : i = w.length := by omega
    subst e
    rw [List.take_length] at p
    exact .inl ⟨by show (wS w).cps.size ≤ _; omega, hd σ' H' p⟩
/-! ### lists of lists -/
abbrev vA (z : Addr × List Nat) : V := .ref z.1
structure NestAt (H : Hp) (p : Addr) (zs : List (Addr × List Nat)) : Prop where
  top : H p = some (.lst (zs.map vA))
  row : ∀ z ∈ zs, H z.1 = some (.lst (z.2.map vN))
  nd : (zs.map (·.1)).Nodup
theorem NestAt.ne {H : Hp} {p : Addr} {zs : List (Addr × List Nat)} (h : NestAt H p zs) (h0 : ∀ z ∈ zs, z.1 ≠ p) : p ∉ zs.map (·.1) := fun m => by
  obtain ⟨z, hz, e⟩ := List.mem_map.mp m
  exact h0 z hz e
theorem nest_same {H H' : Hp} {zs : List (Addr × List Nat)} (e : Same H H') (h : NestAt H p zs) : NestAt H' p zs := ⟨e _ _ h.top, fun z hz => e _ _ (h.row z hz), h.nd⟩
theorem nest_but {H H' : Hp} {l : Addr} {zs : List (Addr × List Nat)} (e : But l H H') (h1 : p ≠ l) (h2 : ∀ z ∈ zs, z.1 ≠ l) (h : NestAt H p zs) : NestAt H' p zs := ⟨e _ _ h1 h.top, fun z hz => e _ _ (h2 z hz) (h.row z hz), h.nd⟩
/-- an empty list more -/
theorem nest_push {H H1 H2 : Hp} {zs : List (Addr × List Nat)} (h : NestAt H p zs) (hq : H q = none) (s : Same H H1) (hq1 : H1 q = some (.lst [])) (e : But p H1 H2) (hp : H2 p = some (.lst (zs.map vA ++ [.ref q]))) (h0 : ∀ z ∈ zs, z.1 ≠ p) : NestAt H2 p (zs ++ [(q, [])]) := by
  refine ⟨by rw [List.map_append]; exact hp, fun z hz => ?_, ?_⟩
  · rcases List.mem_append.mp hz with hz | hz
    · exact e _ _ (h0 z hz) (s _ _ (h.row z hz))
    · rw [List.mem_singleton] at hz
      subst hz
      exact e _ _ (fun e' => ne_new h.top hq e') hq1
  · rw [List.map_append, List.nodup_append]
    refine ⟨h.nd, by simp, fun x hx y hy => ?_⟩
    obtain ⟨z, hz, rfl⟩ := List.mem_map.mp hx
    have : y = q := by simpa using hy
    subst this
    exact ne_old (h.row z hz) hq
/-- the last list grown -/
theorem nest_grow {H H1 : Hp} {zs : List (Addr × List Nat)} {r r' : List Nat} (h : NestAt H p (zs ++ [(q, r)])) (hn : q ≠ p) (e : But q H H1) (hq : H1 q = some (.lst (r'.map vN))) : NestAt H1 p (zs ++ [(q, r')]) := by
  have nd := h.nd
  rw [List.map_append, List.nodup_append] at nd
  refine ⟨?_, fun z hz => ?_, ?_⟩
  · have := e _ _ (Ne.symm hn) h.top
    rw [List.map_append] at this ⊢
    exact this
  · rcases List.mem_append.mp hz with hz | hz
    · refine e _ _ ?_ (h.row z (List.mem_append.mpr (.inl hz)))
      exact nd.2.2 _ (List.mem_map.mpr ⟨z, hz, rfl⟩) _ (by simp)
    · rw [List.mem_singleton] at hz
      subst hz
      exact hq
  · have := h.nd
    rw [List.map_append] at this ⊢
    exact this
/-- the first list grown -/
theorem nest_grow0 {H H1 : Hp} {zs : List (Addr × List Nat)} {r r' : List Nat} (h : NestAt H p ((q, r) :: zs)) (hn : q ≠ p) (e : But q H H1) (hq : H1 q = some (.lst (r'.map vN))) : NestAt H1 p ((q, r') :: zs) := by
  have nd := h.nd
  rw [List.map_cons, List.nodup_cons] at nd
  refine ⟨?_, fun z hz => ?_, ?_⟩
  · have := e _ _ (Ne.symm hn) h.top
    rw [List.map_cons] at this ⊢
    exact this
  · rcases List.mem_cons.mp hz with rfl | hz
    · exact hq
    · refine e _ _ ?_ (h.row z (List.mem_cons_of_mem _ hz))
      exact fun e' => nd.1 (List.mem_map.mpr ⟨z, hz, e'⟩)
  · exact h.nd
def gN (r : List Nat) : PyData := .list (r.map fun (n : Nat) => PyData.int (n : Int))
theorem nest_dp {H : Hp} : ∀ (zs : List (Addr × List Nat)), (∀ z ∈ zs, H z.1 = some (.lst (z.2.map vN))) → DpAll K H (zs.map vA) ((zs.map (·.2)).map gN)
  | [], _ => .nil
  | z :: zs, h => .cons (.lst (sl_of (h z (List.mem_cons_self ..))) (dpAll_map leaf_nat z.2)) (nest_dp zs fun y hy => h y (List.mem_cons_of_mem _ hy))
theorem eqv_gN (a b : List Nat) : PyData.eqv (gN a) (gN b) = decide (a = b) := by
  unfold gN
  simp only [PyData.eqv]
  exact eqvAll_map leaf_nat a b
theorem eqvAll_gN : ∀ xs ys : List (List Nat), PyData.eqvAll (xs.map gN) (ys.map gN) = decide (xs = ys)
  | [], [] => rfl
  | [], _ :: _ => rfl
  | _ :: _, [] => rfl
  | x :: xs, y :: ys => by
    rw [List.map_cons, List.map_cons]
    simp only [PyData.eqvAll]
    rw [eqv_gN, eqvAll_gN xs ys]
    by_cases h : x = y <;> by_cases h2 : xs = ys <;> simp [h, h2]
theorem lay_gN (r : List Nat) : (gN r).canLay0 = true := by unfold gN; simp only [PyData.canLay0]; exact layAll_map leaf_nat r
theorem dep_gN (r : List Nat) : (gN r).depth = 1 := by unfold gN; simp only [PyData.depth]; rw [depAll_map leaf_nat]
theorem shaped_gN (R : List (List Nat)) : SeqAt.shaped (.list (R.map gN)) = true := by
  have h1 : (PyData.list (R.map gN)).canLay0 = true := by
    simp only [PyData.canLay0]
    induction R with
    | nil => rfl
    | cons r R ih => rw [List.map_cons]; simp only [PyData.canLayAll0]; rw [lay_gN, ih]; rfl
  have h2 : (PyData.list (R.map gN)).depth ≤ 64 := by
    simp only [PyData.depth]
    have : PyData.depthAll (R.map gN) ≤ 1 := by
      induction R with
      | nil => exact Nat.zero_le _
      | cons r R ih =>
        rw [List.map_cons]
        simp only [PyData.depthAll]
        have h1' : PyData.depthAll (R.map gN) ≤ 1 := by
          apply ih
          simp only [PyData.canLay0] at h1 ⊢
          rw [List.map_cons] at h1
          simp only [PyData.canLayAll0] at h1
          exact (Bool.and_eq_true _ _ ▸ h1).2
        rw [dep_gN]
        omega
    omega
  unfold SeqAt.shaped
  rw [h1, decide_eq_true h2]
  rfl
theorem c_neNest {zs ys : List (Addr × List Nat)} (h : NestAt H a zs) (h' : NestAt H b ys) (k : Q (.bl (!decide (zs.map (·.2) = ys.map (·.2)))) H) : rNeD K (.ref a) (.ref b) H Q := by
  refine ⟨_, _, .lst (sl_of h.top) (nest_dp zs h.row), .lst (sl_of h'.top) (nest_dp ys h'.row), shaped_gN _, shaped_gN _, ?_⟩
  show Q (.bl (!PyData.eqvAll ((zs.map (·.2)).map gN) ((ys.map (·.2)).map gN))) H
  rw [eqvAll_gN]
  exact k
theorem c_eqNest {zs ys : List (Addr × List Nat)} (h : NestAt H a zs) (h' : NestAt H b ys) (k : Q (.bl (decide (zs.map (·.2) = ys.map (·.2)))) H) : rEqD K (.ref a) (.ref b) H Q := by
  refine ⟨_, _, .lst (sl_of h.top) (nest_dp zs h.row), .lst (sl_of h'.top) (nest_dp ys h'.row), shaped_gN _, shaped_gN _, ?_⟩
  show Q (.bl (PyData.eqvAll ((zs.map (·.2)).map gN) ((ys.map (·.2)).map gN))) H
  rw [eqvAll_gN]
  exact k
/-! list.index of numbers -/
theorem eqV_nat (m n : Nat) : eqV (vN m) (vN n) = decide (m = n) := by
  show ((m : Int) == (n : Int)) = _
  by_cases h : m = n
  · subst h; simp
  · have : ¬ (m : Int) = (n : Int) := by omega
    simp [h, this]
theorem c_index {os : List Nat} {c : Nat} (h : SqL K H a (os.map vN)) (hc : c ∈ os) (k : Q (vN (pos os c)) H) : rIndex K (.ref a) [vN c] H Q := by
  have hp := pos_lt hc
  have hg := pos_get hc
  refine ⟨a, os.map vN, vN c, pos os c, vN c, rfl, rfl, h, rfl, flat_nat os, ?_, by rw [eqV_nat]; simp, fun m z hm hz => ?_, k⟩
  · rw [List.getElem?_map, get?_getD hp, hg]
    rfl
  · rw [List.getElem?_map] at hz
    obtain ⟨y, hy, rfl⟩ := Option.map_eq_some_iff.mp hz
    rw [eqV_nat, decide_eq_false_iff_not]
    rintro rfl
    have h1 := (List.getElem?_eq_some_iff.mp hy)
    obtain ⟨h2, h3⟩ := h1
    exact absurd h3 (by
      have := List.not_of_lt_findIdx (p := (· == y)) (xs := os) (i := m) hm
      simpa using this)
end
/-! ### promises -/
def RetNest (R : List (List Nat)) (H : Hp) (Q : VK) : Prop := ∀ p H' zs, H p = none → (∀ z ∈ zs, H z.1 = none ∧ z.1 ≠ p) → Same H H' → NestAt H' p zs → zs.map (·.2) = R → Q (.ref p) H'
def sp_p_rows (K : PySem.W.Frag) (C : Cl) : Sp := fun vs H Q _ => ∃ (a : Addr) (os : List Nat), vs = [.ref a] ∧ SqL K H a (os.map vN) ∧ Ord os ∧ RetNest (rowsF os) H Q
def sp_l_rows (K : PySem.W.Frag) (C : Cl) : Sp := sp_p_rows K C
def sp_l_order (K : PySem.W.Frag) (C : Cl) : Sp := fun vs H Q _ => ∃ (c : Int) (n : Nat), vs = [.int c, vN n] ∧ 1 ≤ n ∧ n ≤ 60 ∧ ∀ os, IsP n os → RetL (os.map vN) H Q
def sp_l_many (K : PySem.W.Frag) (C : Cl) : Sp := fun vs H Q _ => ∃ (c k : Int), vs = [.int c, .int k] ∧ 0 ≤ k ∧ k ≤ 1000 ∧ ∀ n : Nat, 1 ≤ n → n ≤ 60 → RetV (vN n) H Q
def sp_l_word (K : PySem.W.Frag) (C : Cl) : Sp := fun vs H Q _ => ∃ (c : Int) (n : Nat), vs = [.int c, vN n] ∧ n ≤ 60 ∧ ∀ w : List Bool, w.length = n → RetV (.str (wS w)) H Q
def sp_l_riffled (K : PySem.W.Frag) (C : Cl) : Sp := fun vs H Q _ => ∃ (a : Addr) (os : List Nat) (w : List Bool), vs = [.ref a, .str (wS w)] ∧ SqL K H a (os.map vN) ∧ os.length = w.length ∧ w.length ≤ 60 ∧ RetL ((pick (riffCame w) os).map vN) H Q
def sp_l_same (K : PySem.W.Frag) (C : Cl) : Sp := fun vs H Q _ => ∃ (a b : Addr) (xs ys : List Nat), vs = [.ref a, .ref b] ∧ SqL K H a (xs.map vN) ∧ SqL K H b (ys.map vN) ∧ xs.length ≤ 1000 ∧ RetV (.bl (decide (xs = ys))) H Q
end Rf

set_option Elab.async false
set_option linter.all false
set_option maxRecDepth 100000
set_option maxHeartbeats 4000000
/-! Rf, part 6: rows as they grow; slices of numbers; draws. -/
namespace Rf
open PySem PySem.Spec L2 Rm
theorem rowsTo_flat (f : Nat → Nat) : ∀ m, (rowsTo f m).flatten = List.range (m + 1)
  | 0 => rfl
  | m + 1 => by
    rw [rowsTo, List.range_succ, ← rowsTo_flat f m]
    split
    · rw [snocLast_flat _ _ (by simp), List.flatten_append]
      simp
    · rw [snocLast_flat _ _ (rowsTo_ne f m)]
theorem len_flatten {R : List (List Nat)} {r : List Nat} (h : r ∈ R) : r.length ≤ R.flatten.length := by
  induction R with
  | nil => cases h
  | cons s R ih =>
    rw [List.flatten_cons, List.length_append]
    rcases List.mem_cons.mp h with rfl | h
    · omega
    · have := ih h; omega
theorem isP_swap {n : Nat} {os : List Nat} (h : IsP n os) {i j : Nat} (hi : i < n) (hj : j < n) : IsP n ((os.set i (os.getD j 0)).set j (os.getD i 0)) := by
  have hl := h.1
  refine isP_of_all (by simp [hl]) fun x hx => ?_
  obtain ⟨k, hk, rfl⟩ := mem_getD (h.mem hx)
  by_cases e : k = i
  · subst e
    refine List.mem_of_getElem? (i := j) ?_
    rw [List.getElem?_set_self (by simp [hl, hj])]
  · by_cases e2 : k = j
    · subst e2
      refine List.mem_of_getElem? (i := i) ?_
      rw [List.getElem?_set_ne e, List.getElem?_set_self (by omega)]
    · refine List.mem_of_getElem? (i := k) ?_
      rw [List.getElem?_set_ne (Ne.symm e2), List.getElem?_set_ne (Ne.symm e), get?_getD hk]
theorem at_D0 {os : List Nat} (h : 0 < os.length) : atI (os.map vN) 0 = some (vN (os.getD 0 0)) := by
  refine atI_nat (j := 0) ?_
  rw [List.getElem?_map, get?_getD h]
  rfl
theorem sIx_lo {n d k : Nat} (h : k ≤ n) : HT.sIx n d (some (k : Int)) = k := by
  rw [HT.sIx_nat, Nat.min_eq_left h]
section
variable {K : PySem.W.Frag} {C : Cl} {σ : L2.St} {H : Hp} {Q : VK} {E : XK} {nx bk ct : L2.St → Hp → Prop} {rt : VK} {a b p q : Addr} {xs : List V} {os : List Nat}
theorem c_slTk {n : Nat} (h : SqL K H a (os.map vN)) (hn : n ≤ os.length) (k : ∀ p H', H p = none → Same H H' → H' p = some (.lst ((os.take n).map vN)) → Q (.ref p) H') : rSlL K (.ref a) none (some (n : Int)) H Q := by
  refine c_slL h fun p H' h1 h2 h3 => k p H' h1 h2 ?_
  rw [h3]
  unfold cutV
  rw [sIx_lo (by rw [List.length_map]; exact hn)]
  simp [HT.sIx]
theorem c_slDr {n : Nat} (h : SqL K H a (os.map vN)) (hn : n ≤ os.length) (k : ∀ p H', H p = none → Same H H' → H' p = some (.lst ((os.drop n).map vN)) → Q (.ref p) H') : rSlL K (.ref a) (some (n : Int)) none H Q := by
  refine c_slL h fun p H' h1 h2 h3 => k p H' h1 h2 ?_
  rw [h3]
  unfold cutV
  rw [sIx_lo (by rw [List.length_map]; exact hn)]
  simp [HT.sIx]
  rw [List.take_of_length_le (by simp)]
theorem c_slD1 (h : SqL K H a (os.map vN)) (hn : 1 ≤ os.length) (k : ∀ p H', H p = none → Same H H' → H' p = some (.lst ((os.drop 1).map vN)) → Q (.ref p) H') : rSlL K (.ref a) (some 1) none H Q := c_slDr (n := 1) h hn k
theorem c_setLN {i x : Nat} {q : Hp → Prop} (h : H a = some (.lst (os.map vN))) (hi : i < os.length) (k : ∀ H', But a H H' → H' a = some (.lst ((os.set i x).map vN)) → q H') : rSetL (.ref a) (.int (i : Int)) (vN x) H q := by
  refine c_setL (m := i) h (by rw [ixN_nat (by omega) (by rw [List.length_map]; omega), Int.toNat_natCast]) fun H' h1 h2 => k H' h1 ?_
  rw [h2, List.map_set]
theorem c_countW {w : List Bool} (k : Q (vN (w.count true)) H) : rCountS (.str (wS w)) [.str "a"] H Q := c_countS (by rw [count_a]; exact k)
theorem c_stripW {w : List Bool} (hl : w.length ≤ 1000) (k : Q (.str "") H) : rStripS (.str (wS w)) [.str "ab"] H Q := c_stripS (by
  have : (wS w).length = w.length := by
    show ((w.map fun b => if b = true then 97 else 98).toArray).size = _
    simp
  omega) (by rw [strip_ab]; exact k)
theorem c_drawB {c k m : Int} (h : 0 ≤ k ∧ k ≤ 1000000) (hm : 0 < m) (kk : ∀ (d : Nat) H', d < m.toNat → Same H H' → Q (vN d) H') : sp_l_draw K C [.int c, .int k, .int m] H Q E := ⟨c, k, m, rfl, h.1, h.2, hm, fun H' s => kk _ H' (drawF_lt hm) s⟩
/-! rows -/
theorem dict_ne {d : Addr} {n : Nat} {f : Int → Option V} (h : DictAt H d n f) (hq : H q = some (.lst xs)) : d ≠ q := by
  rintro rfl
  obtain ⟨kvs, h1, _⟩ := h
  rw [h1] at hq
  cases hq
/-- lists of lists that are new, H0 the heap ahead of them -/
structure NestNew (H0 H : Hp) (p : Addr) (R : List (List Nat)) : Prop where
  ex : ∃ zs, H0 p = none ∧ (∀ z ∈ zs, H0 z.1 = none ∧ z.1 ≠ p) ∧ Same H0 H ∧ NestAt H p zs ∧ zs.map (·.2) = R
theorem NestNew.same {H0 H : Hp} {R : List (List Nat)} (h : NestNew H0 H p R) : Same H0 H := by
  obtain ⟨zs, _, _, s, _⟩ := h.ex
  exact s
theorem NestNew.step {H0 H H' : Hp} {R : List (List Nat)} (h : NestNew H0 H p R) (s : Same H H') : NestNew H0 H' p R := by
  obtain ⟨zs, h1, h2, h3, h4, h5⟩ := h.ex
  exact ⟨zs, h1, h2, h3.trans s, nest_same s h4, h5⟩
theorem NestNew.top {H0 H : Hp} {R : List (List Nat)} (h : NestNew H0 H p R) : ∃ xs, H p = some (.lst xs) ∧ xs.length = R.length := by
  obtain ⟨zs, _, _, _, h4, rfl⟩ := h.ex
  exact ⟨_, h4.top, by simp⟩
/-- found.append([]) -/
theorem c_push {i : Nat} {H0 : Hp} {R : List (List Nat)} (hi : σ[i]? = some (some (.ref p))) (h : NestNew H0 H p R) (hl : R.length ≤ 1000)
    (k : ∀ H', NestNew H0 H' p (R ++ [[]]) → (∀ d n f, DictAt H d n f → DictAt H' d n f) → nx σ H') : tDrop (tBM K "list" rAppend (tVar i) (tCons (tLst tNil) tNil)) ⟨nx, rt, bk, ct⟩ σ H := by
  obtain ⟨zs, h1, h2, h3, h4, h5⟩ := h.ex
  refine c_drop (c_bm (c_var hi (c_kBMl (sl_of h4.top) (c_cons (c_lst (c_nil (c_kLst (by decide) fun q H1 hq s1 hq1 => ?_)))))))
  refine c_nil (c_append (s1 _ _ h4.top) (by rw [List.length_map, ← List.length_map (f := (·.2)), h5]; omega) fun H2 e2 hp2 => ?_)
  refine k H2 ⟨zs ++ [(q, [])], h1, fun z hz => ?_, ?_, ?_, ?_⟩ fun d n f hd => ?_
  · rcases List.mem_append.mp hz with hz | hz
    · exact h2 z hz
    · rw [List.mem_singleton] at hz
      subst hz
      exact ⟨none_of_same hq h3, ne_new h4.top hq⟩
  · exact same_of_but h1 (h3.trans s1) e2
  · exact nest_push h4 hq s1 hq1 e2 hp2 fun z hz => (h2 z hz).2
  · rw [List.map_append, h5]; rfl
  · exact dict_but e2 (dict_ne hd h4.top) (dict_same s1 hd)
/-- found[-1].append(card) -/
theorem c_grow {i j c : Nat} {H0 : Hp} {R : List (List Nat)} (hi : σ[i]? = some (some (.ref p))) (hj : σ[j]? = some (some (vN c))) (h : NestNew H0 H p R) (hne : R ≠ []) (hl : R.flatten.length ≤ 1000)
    (k : ∀ H', NestNew H0 H' p (snocLast R c) → (∀ d n f, DictAt H d n f → DictAt H' d n f) → nx σ H') : tDrop (tBM K "list" rAppend (tOp (rIxL K) (tVar i) (tUn oNeg (tC (.int 1)))) (tCons (tVar j) tNil)) ⟨nx, rt, bk, ct⟩ σ H := by
  obtain ⟨zs, h1, h2, h3, h4, h5⟩ := h.ex
  have hz : zs ≠ [] := by rintro rfl; exact hne h5.symm
  obtain ⟨ys, z, rfl⟩ : ∃ ys z, zs = ys ++ [z] := ⟨zs.dropLast, zs.getLast hz, (List.dropLast_concat_getLast hz).symm⟩
  obtain ⟨q, r⟩ := z
  have hq := h4.row (q, r) (by simp)
  have hr : r.length ≤ R.flatten.length := len_flatten (by rw [← h5]; simp)
  have hqn := h2 (q, r) (by simp)
  have ht := h4.top
  rw [List.map_append] at ht
  refine c_drop (c_bm (c_op (c_var hi (c_un (c_c (c_iU (c_ixL (n := -1) (sl_of ht) (atI_last _ _) ?_)))))))
  refine c_kBMl (sl_of hq) (c_cons (c_var hj (c_nil (c_append hq (by rw [List.length_map]; show r.length < _; omega) fun H2 e2 hq2 => ?_))))
  refine k H2 ⟨ys ++ [(q, r ++ [c])], h1, fun z hz => ?_, ?_, ?_, ?_⟩ fun d n f hd => ?_
  · rcases List.mem_append.mp hz with hz | hz
    · exact h2 z (List.mem_append.mpr (.inl hz))
    · rw [List.mem_singleton] at hz
      subst hz
      exact hqn
  · exact same_of_but hqn.1 h3 e2
  · exact nest_grow h4 hqn.2 e2 (by rw [hq2, List.map_append]; rfl)
  · rw [List.map_append, ← h5, List.map_append]
    exact (snocLast_app r c _).symm
  · exact dict_but e2 (dict_ne hd hq) hd
/-- [[0]] -/
theorem c_nest0 (k : ∀ p H', NestNew H H' p [[0]] → Q (.ref p) H') : tLst (tCons (tLst (tCons (tC (.int 0)) tNil)) tNil) σ H Q := by
  refine c_lst (c_cons (c_lst (c_cons (c_c (c_nil (c_kLst (by simp) fun q H1 hq s1 hq1 => ?_))))))
  refine c_nil (c_kLst (by simp) fun p H2 hp s2 hp2 => ?_)
  refine k p H2 ⟨[(q, [0])], none_of_same hp s1, fun z hz => ?_, s1.trans s2, ⟨hp2, fun z hz => ?_, by simp⟩, rfl⟩
  · rw [List.mem_singleton] at hz
    subst hz
    exact ⟨hq, ne_old hq1 hp⟩
  · rw [List.mem_singleton] at hz
    subst hz
    exact s2 _ _ hq1
theorem ret_nest {H0 : Hp} {R : List (List Nat)} (h : NestNew H0 H p R) (k : RetNest R H0 Q) : Q (.ref p) H := by
  obtain ⟨zs, h1, h2, h3, h4, h5⟩ := h.ex
  exact k p H zs h1 h2 h3 h4 h5
theorem c_many {c k : Int} (h : 0 ≤ k ∧ k ≤ 1000) (kk : ∀ (n : Nat) H', 1 ≤ n → n ≤ 60 → Same H H' → Q (vN n) H') : sp_l_many K C [.int c, .int k] H Q E := ⟨c, k, rfl, h.1, h.2, fun n h1 h2 H' s => kk n H' h1 h2 s⟩
theorem c_order {c : Int} {n : Nat} (h : 1 ≤ n ∧ n ≤ 60) (kk : ∀ p os H', IsP n os → H p = none → Same H H' → H' p = some (.lst (os.map vN)) → Q (.ref p) H') : sp_l_order K C [.int c, vN n] H Q E := ⟨c, n, rfl, h.1, h.2, fun os ho p H' h1 h2 h3 => kk p os H' ho h1 h2 h3⟩
theorem c_word {c : Int} {n : Nat} (h : n ≤ 60) (kk : ∀ w H', w.length = n → Same H H' → Q (.str (wS w)) H') : sp_l_word K C [.int c, vN n] H Q E := ⟨c, n, rfl, h, fun w hw H' s => kk w H' hw s⟩
theorem c_rows (h : SqL K H a (os.map vN)) (ho : Ord os) (k : RetNest (rowsF os) H Q) : sp_p_rows K C [.ref a] H Q E := ⟨a, os, rfl, h, ho, k⟩
theorem c_lrows (h : SqL K H a (os.map vN)) (ho : Ord os) (k : RetNest (rowsF os) H Q) : sp_l_rows K C [.ref a] H Q E := ⟨a, os, rfl, h, ho, k⟩
theorem c_riffled {w : List Bool} (h : SqL K H a (os.map vN)) (hl : os.length = w.length) (h60 : w.length ≤ 60) (k : ∀ p H', H p = none → Same H H' → H' p = some (.lst ((pick (riffCame w) os).map vN)) → Q (.ref p) H') : sp_l_riffled K C [.ref a, .str (wS w)] H Q E := ⟨a, os, w, rfl, h, hl, h60, k⟩
theorem c_same {b : Addr} {xs ys : List Nat} (h : SqL K H a (xs.map vN)) (h' : SqL K H b (ys.map vN)) (hl : xs.length ≤ 1000) (k : ∀ H', Same H H' → Q (.bl (decide (xs = ys))) H') : sp_l_same K C [.ref a, .ref b] H Q E := ⟨a, b, xs, ys, rfl, h, h', hl, k⟩
theorem ord_of {n : Nat} (h : IsP n os) (h1 : 1 ≤ n) (h2 : n ≤ 60) : Ord os := ⟨by rw [h.1]; exact h1, by rw [h.1]; exact h2, by rw [h.1]; exact h⟩
theorem ord_rev (h : Ord os) : Ord os.reverse := by
  refine ⟨by rw [List.length_reverse]; exact h.1, by rw [List.length_reverse]; exact h.2.1, ?_⟩
  rw [List.length_reverse]
  exact h.2.2.reverse
end
end Rf

set_option Elab.async false
set_option linter.all false
set_option maxRecDepth 100000
set_option maxHeartbeats 4000000
/-! Rf, part 7: comprehensions over range(a, b), lists of lists that are only read, counting of orders. -/
namespace Rf
open PySem PySem.Spec L2 Rm
section
variable {K : PySem.W.Frag} {σ : L2.St} {H : Hp} {Q : VK} {g : TG} {tt : TT} {te tl : TE} {tr : TA} {j : Nat} {a : Addr} {E : XK} {C : Cl}
def kLc2 (g : TG) (tt : TT) (te : TE) (vs : List Nat) (σ : L2.St) (Q : VK) : List V → Hp → Prop := fun us H1 => ∃ n m : Int, us = [.int n, .int m] ∧ (-(2 ^ 62) ≤ n ∧ n < 2 ^ 62 ∧ -(2 ^ 62) ≤ m ∧ m < 2 ^ 62) ∧ ∀ D, H1 D = none → ∃ W : Nat → Nat → Hp → Prop, (∃ k, W 0 k (upd H1 D (.lst []))) ∧ ∀ i k H, W i k H →
  ((Itr n (m - n).toNat).stop i H ∧ Q (.ref D) H) ∨ ((Itr n (m - n).toNat).go i H ∧ ∃ Nx : Hp → Prop, (∀ H', Nx H' → ∃ m', m' < k ∧ W (i + 1) m' H') ∧ ∀ x H', (Itr n (m - n).toNat).yld i H x H' → g x (wipe σ vs) H' fun σ2 H2 => wipe σ2 vs = wipe σ vs ∧ tt σ2 H2 fun b H3 =>
    if b = true then te σ2 H3 fun y H4 => ∃ acc, H4 D = some (.lst acc) ∧ acc.length < sizeLine ∧ Nx (upd H4 D (.lst (acc ++ [y]))) else Nx H3)
theorem c_lc2 {vs : List Nat} (k : tr σ H (kLc2 g tt te vs σ Q)) : tLc (iRng2 tr) g tt te vs σ H Q := k
theorem l_lcF2 {e e' : Int} (lo n : Nat) (he0 : e = (lo : Int)) (he' : (e' - e).toNat = n) (hn : lo + n ≤ 1000000) (hb : -1000000 ≤ e' ∧ e' ≤ 1000000) {vs : List Nat} (h : Nat → V) (hw : ∀ x, wipe ((wipe σ vs).set j (some x)) vs = wipe σ vs)
    (he : ∀ x H' (q : VK), x < n → Same H H' → (∀ H'', Same H' H'' → q (h x) H'') → te ((wipe σ vs).set j (some (vN (lo + x)))) H' q)
    (k : ∀ p H', H p = none → Same H H' → H' p = some (.lst ((List.range n).map h)) → Q (.ref p) H') : kLc2 (gName j) tYes te vs σ Q [.int e, .int e'] H := by
  subst he0 he'
  refine ⟨_, _, rfl, ⟨by omega, by omega, by omega, by omega⟩, fun D hD => ?_⟩
  refine lc_range (lo := (lo : Int)) (n := (e' - (lo : Int)).toNat) (fun i H' => LcW (fun x v _ => v = h x) (fun _ => true) H D (List.range i) H') ⟨[], hD, same_upd hD, upd_same, .nil⟩ (fun i H' hi w => ?_) (fun H' w => ?_)
  · refine ⟨hw _, lc_turn (x := i) (R := fun x v _ => v = h x) (keep := fun _ => true) (fun _ _ _ _ _ z => z) (fun _ _ _ _ _ _ z => z) (by rw [List.length_range]; omega) w (fun H' q s z => z H' (Same.refl _)) (fun hk H' q s z => ?_) fun H'' w' => ?_⟩
    · have := he i H' q hi s fun H'' s' => z _ H'' s' rfl
      rw [show vN (lo + i) = .int ((lo : Int) + (i : Int)) from rfl] at this
      exact this
    · rw [List.range_succ]
      exact w'
  · obtain ⟨acc, h1, h2, h3, h4⟩ := w.ex
    rw [List.filter_eq_self.mpr fun _ _ => rfl] at h4
    rw [paired_map (h := h) (fun _ _ z => z) h4] at h3
    exact k D H' h1 h2 h3
/-! lists of lists that are only read -/
def ListsAt (H : Hp) (p : Addr) (R : List (List Nat)) : Prop := ∃ zs : List (Addr × List Nat), H p = some (.lst (zs.map vA)) ∧ (∀ z ∈ zs, H z.1 = some (.lst (z.2.map vN))) ∧ zs.map (·.2) = R
theorem lists_same {H' : Hp} {p : Addr} {R : List (List Nat)} (s : Same H H') (h : ListsAt H p R) : ListsAt H' p R := by
  obtain ⟨zs, h1, h2, h3⟩ := h
  exact ⟨zs, s _ _ h1, fun z hz => s _ _ (h2 z hz), h3⟩
theorem lists_of {H : Hp} {α : Type} {f : α → List Nat} : ∀ {xs : List α} {acc : List V}, Paired (fun x v => ∃ q, v = V.ref q ∧ H q = some (.lst ((f x).map vN))) xs acc → ∃ zs : List (Addr × List Nat), acc = zs.map vA ∧ (∀ z ∈ zs, H z.1 = some (.lst (z.2.map vN))) ∧ zs.map (·.2) = xs.map f
  | _, _, .nil => ⟨[], rfl, (fun _ h => absurd h (List.not_mem_nil)), rfl⟩
  | x :: xs, _, .cons r t => by
    obtain ⟨q, rfl, hq⟩ := r
    obtain ⟨zs, h1, h2, h3⟩ := lists_of t
    refine ⟨(q, f x) :: zs, by rw [h1]; rfl, fun z hz => ?_, by rw [List.map_cons, h3]; rfl⟩
    rcases List.mem_cons.mp hz with rfl | hz
    · exact hq
    · exact h2 z hz
/-- [f(x) for x in xs], each a new list of numbers -/
theorem l_lcLists {zs0 : List (Addr × List Nat)} {vs : List Nat} (f : List Nat → List Nat) (hx : SqL K H a (zs0.map vA)) (hz : ∀ z ∈ zs0, H z.1 = some (.lst (z.2.map vN))) (hn : zs0.length < 1000000) (hw : ∀ x, wipe ((wipe σ vs).set j (some x)) vs = wipe σ vs)
    (he : ∀ (z : Addr × List Nat) H' (q : VK), z ∈ zs0 → Same H H' → H' z.1 = some (.lst (z.2.map vN)) → (∀ p H'', H' p = none → Same H' H'' → H'' p = some (.lst ((f z.2).map vN)) → q (.ref p) H'') → te ((wipe σ vs).set j (some (vA z))) H' q)
    (k : ∀ p H', H p = none → Same H H' → ListsAt H' p (zs0.map fun z => f z.2) → Q (.ref p) H') : kLcL K (gName j) tYes te vs σ Q (.ref a) H := by
  refine ⟨a, rfl, ⟨_, hx⟩, fun D hD => ?_⟩
  refine lc_list (xs := zs0.map vA) (fun i H' => Same H H' ∧ ∃ ys : List (Addr × List Nat), H' D = some (.lst (ys.map vA)) ∧ (∀ y ∈ ys, y.1 ≠ D ∧ H' y.1 = some (.lst (y.2.map vN))) ∧ ys.map (·.2) = (zs0.take i).map fun z => f z.2) ⟨same_upd hD, [], upd_same, (fun _ h => absurd h (List.not_mem_nil)), rfl⟩ (fun i H' _ w => sl_same w.1 hx) (fun i x H' hi w => ?_) (fun H' w => ?_)
  · obtain ⟨s, ys, h1, h2, h3⟩ := w
    rw [List.getElem?_map] at hi
    obtain ⟨z, hz', rfl⟩ := Option.map_eq_some_iff.mp hi
    obtain ⟨post, e1, e2⟩ := take_mid hz'
    have hm : z ∈ zs0 := List.mem_of_getElem? hz'
    have hi' := (List.getElem?_eq_some_iff.mp hz').1
    refine ⟨hw _, ?_⟩
    refine c_yes.mpr ?_
    rw [if_pos rfl]
    refine he z H' _ hm s (s _ _ (hz z hm)) fun p H'' hp s' hp' => ?_
    have hl : ys.length = i := by
      have := congrArg List.length h3
      simp at this
      omega
    have hpD : p ≠ D := ne_new h1 hp
    refine ⟨ys.map vA, s' _ _ h1, by rw [List.length_map, hl]; exact sz' (by omega), ?_, ys ++ [(p, f z.2)], ?_, fun y hy => ?_, ?_⟩
    · exact same_of_but hD (s.trans s') but_upd
    · rw [upd_same, List.map_append]
      rfl
    · rcases List.mem_append.mp hy with hy | hy
      · have := h2 y hy
        exact ⟨this.1, by rw [upd_ne this.1]; exact s' _ _ this.2⟩
      · rw [List.mem_singleton] at hy
        subst hy
        exact ⟨hpD, by rw [upd_ne hpD]; exact hp'⟩
    · rw [e2, List.map_append, List.map_append, h3]
      rfl
  · obtain ⟨s, ys, h1, h2, h3⟩ := w
    rw [List.length_map, List.take_length] at h3
    exact k D H' hD s ⟨ys, h1, fun y hy => (h2 y hy).2, h3⟩
end
/-! promises -/
def sp_p_part (K : PySem.W.Frag) (C : Cl) : Sp := fun vs H Q _ => ∃ (a : Addr) (os : List Nat) (k : Nat), vs = [.ref a, vN k] ∧ SqL K H a (os.map vN) ∧ Q (vN (os.getD k 0)) H
def sp_p_orders_with (K : PySem.W.Frag) (C : Cl) : Sp := fun vs H Q _ => ∃ (c m : Nat), vs = [vN c, vN m] ∧ 1 ≤ c ∧ c ≤ 60 ∧ m ≤ 60 ∧ RetV (vN (eul (c - 1) m)) H Q
def sp_l_orders (K : PySem.W.Frag) (C : Cl) : Sp := fun vs H Q _ => ∃ n : Nat, vs = [vN n] ∧ n ≤ 5 ∧ ∀ p H', H p = none → Same H H' → ListsAt H' p (ordersF n) → Q (.ref p) H'
section
variable {K : PySem.W.Frag} {H : Hp} {Q : VK} {a : Addr} {E : XK} {C : Cl}
theorem c_part' {os : List Nat} {k : Nat} (h : SqL K H a (os.map vN)) (kk : Q (vN (os.getD k 0)) H) : sp_p_part K C [.ref a, vN k] H Q E := ⟨a, os, k, rfl, h, kk⟩
theorem c_ordersWith {c m : Nat} (h : 1 ≤ c ∧ c ≤ 60 ∧ m ≤ 60) (kk : ∀ H', Same H H' → Q (vN (eul (c - 1) m)) H') : sp_p_orders_with K C [vN c, vN m] H Q E := ⟨c, m, rfl, h.1, h.2.1, h.2.2, kk⟩
theorem c_orders {n : Nat} (h : n ≤ 5) (kk : ∀ p H', H p = none → Same H H' → ListsAt H' p (ordersF n) → Q (.ref p) H') : sp_l_orders K C [vN n] H Q E := ⟨n, rfl, h, kk⟩
theorem c_countN {os : List Nat} {m : Nat} (h : SqL K H a (os.map vN)) (k : Q (vN (os.count m)) H) : rCntI K (.ref a) [vN m] H Q := by
  refine c_countI (ns := os.map fun (k : Nat) => (k : Int)) (by rw [List.map_map]; exact h) ?_
  have e : (os.map fun (k : Nat) => (k : Int)).count (m : Int) = os.count m := by
    induction os with
    | nil => rfl
    | cons x os ih =>
      have ih' : (os.map fun (k : Nat) => (k : Int)).count (m : Int) = os.count m := by
        clear h k ih
        induction os with
        | nil => rfl
        | cons y os ih2 =>
          rw [List.map_cons, List.count_cons, List.count_cons, ih2]
          congr 1
          by_cases q : y = m
          · subst q; simp
          · have : ¬ (y : Int) = (m : Int) := by omega
            simp [q, this]
      rw [List.map_cons, List.count_cons, List.count_cons, ih']
      congr 1
      by_cases q : x = m
      · subst q; simp
      · have : ¬ (x : Int) = (m : Int) := by omega
        simp [q, this]
  rw [e]
  exact k
theorem sum_nat : ∀ os : List Nat, (os.map fun (k : Nat) => (k : Int)).sum = ((os.sum : Nat) : Int)
  | [] => rfl
  | x :: os => by rw [List.map_cons, List.sum_cons, List.sum_cons, sum_nat os]; omega
theorem c_sumN {os : List Nat} (h : SqL K H a (os.map vN)) (k : Q (vN os.sum) H) : rSum K [.ref a] H Q := by
  refine c_sum (ns := os.map fun (k : Nat) => (k : Int)) (by rw [List.map_map]; exact h) ?_
  rw [sum_nat]
  exact k
end
end Rf

set_option Elab.async false
set_option linter.all false
set_option maxRecDepth 100000
set_option maxHeartbeats 4000000
/-! Rf, part 10: moves by hand: a text many times, list(range(a, b, c)), moves told as pairs, undone. -/
namespace Rf
open PySem PySem.Spec L2 Rm
/-! ### text * n -/
def repS (w : Str) (n : Nat) : Str := ⟨(List.replicate n w.cps).foldl (· ++ ·) #[]⟩
def rMulS : R2 := fun x y H Q => ∃ w k, x = .str w ∧ y = .int k ∧ 0 ≤ k ∧ k ≤ 1000000 ∧ w.length * k.toNat ≤ 1000000 ∧ Q (.str (repS w k.toNat)) H
theorem repS_empty {w : Str} (h : w.length = 0) (n : Nat) : repS w n = w := by
  obtain ⟨c⟩ := w
  have hc : c = #[] := by
    have : c.size = 0 := h
    exact Array.eq_empty_of_size_eq_zero this
  subst hc
  unfold repS
  congr 1
  induction n with
  | zero => rfl
  | succ n ih => rw [List.replicate_succ, List.foldl_cons]; exact ih
theorem op_mulS {X : Cx} : OpR X (binaryOp .Mult) rMulS := by
  intro pins s σ H x y v u Q I rx ry h
  obtain ⟨w, k, rfl, rfl, h0, h1, hz, q⟩ := h
  obtain ⟨t, rfl⟩ := rx
  obtain ⟨t', rfl⟩ := ry
  have hsz : sizeLine = 16777216 := rfl
  refine PySem.P.mul_str ?_ (fun hn h2 hgt => ?_) (fun hn h2 => ?_) ?_
  · have e1 : decide (k < -(2 ^ 63 : Int)) = false := decide_eq_false (by omega)
    have e2 : decide (k ≥ 2 ^ 63) = false := decide_eq_false (by omega)
    rw [e1, e2]
    rfl
  · have hk : 0 < k := by omega
    have hw : w.length ≤ w.length * k.toNat := Nat.le_mul_of_pos_right _ (by omega)
    have := (Int.le_ediv_iff_mul_le (a := (w.length : Int)) (b := 2 ^ 63 - 1) hk).mpr (by
      have e : (w.length : Int) * k = ((w.length * k.toNat : Nat) : Int) := by rw [Int.natCast_mul, Int.toNat_of_nonneg h0]
      rw [e]
      omega)
    omega
  · unfold Builtin.Str.tooLong
    exact decide_eq_false (by omega)
  · have hlen : (repS w k.toNat).length ≤ sizeLine := by
      have e : (repS w k.toNat).cps.toList = (List.replicate k.toNat w.cps.toList).flatten := by
        have : ∀ (n : Nat) (a : Array Nat), (List.foldl (fun x1 x2 => x1 ++ x2) a (List.replicate n w.cps)).toList = a.toList ++ (List.replicate n w.cps.toList).flatten := fun n => by
          induction n with
          | zero => intro a; simp
          | succ n ih => intro a; rw [List.replicate_succ, List.foldl_cons, ih, List.replicate_succ, List.flatten_cons, Array.toList_append, List.append_assoc]
        exact (this _ _).trans (by simp)
      have e2 : (repS w k.toNat).length = (repS w k.toNat).cps.toList.length := by simp [Str.length]
      rw [e2, e, PyProof.Rows.lm_len_rep_flat]
      have e3 : w.cps.toList.length = w.length := by simp [Str.length]
      rw [e3, Nat.mul_comm]
      omega
    by_cases hn : k < 1
    · rw [if_pos hn]
      have e : k.toNat = 0 := by omega
      have e2 : repS w k.toNat = Str.empty := by rw [e]; rfl
      rw [e2] at q hlen
      exact ⟨hlen, .str Str.empty, H, I.tok _, ⟨_, rfl⟩, q⟩
    · rw [if_neg hn]
      by_cases h2 : (k == 1 || w.length == 0) = true
      · rw [if_pos h2]
        have e2 : repS w k.toNat = w := by
          rw [Bool.or_eq_true, beq_iff_eq, beq_iff_eq] at h2
          rcases h2 with h2 | h2
          · subst h2
            unfold repS
            show (⟨#[] ++ w.cps⟩ : Str) = w
            simp
          · exact repS_empty h2 _
        rw [e2] at q
        exact ⟨.str w, H, I, ⟨_, rfl⟩, q⟩
      · rw [if_neg h2]
        exact ⟨hlen, .str (repS w k.toNat), H, I.tok _, ⟨_, rfl⟩, q⟩
theorem c_mulS {H : Hp} {Q : VK} {w : Str} {n : Nat} (h : n ≤ 1000) (hw : w.length ≤ 1000) (k : Q (.str (repS w n)) H) : rMulS (.str w) (.int (n : Int)) H Q :=
  ⟨w, n, rfl, rfl, by omega, by omega, by rw [Int.toNat_natCast]; exact Nat.le_trans (Nat.mul_le_mul hw h) (by decide), by rw [Int.toNat_natCast]; exact k⟩
theorem repS_alt {f h : Nat} : repS (if f = 1 then "ba" else "ab") h = wS (altW f h) := by
  have e : ∀ u : List Bool, repS (wS u) h = wS (List.replicate h u).flatten := fun u => by
    have : ∀ (n : Nat) (a : List Nat), (List.foldl (fun x1 x2 => x1 ++ x2) a.toArray (List.replicate n (wS u).cps)) = (a ++ (List.replicate n u).flatten.map cd).toArray := fun n => by
      induction n with
      | zero => intro a; simp
      | succ n ih =>
        intro a
        have e1 : a.toArray ++ (wS u).cps = (a ++ u.map cd).toArray := by
          have : (wS u).cps = (u.map cd).toArray := rfl
          rw [this, List.append_toArray]
        rw [List.replicate_succ, List.foldl_cons, e1, ih, List.replicate_succ, List.flatten_cons, List.map_append, List.append_assoc]
    have h2 := this h []
    unfold repS
    show (⟨List.foldl (fun x1 x2 => x1 ++ x2) ([] : List Nat).toArray (List.replicate h (wS u).cps)⟩ : Str) = _
    rw [h2]
    rfl
  unfold altW
  by_cases hf : f = 1
  · rw [if_pos hf, if_pos hf]
    exact e [false, true]
  · rw [if_neg hf, if_neg hf]
    exact e [true, false]
/-! ### list(range(a, b, c)) -/
open PyProof.Rows
/-- an expression that makes a range with a step -/
def PRg3 (X : Cx) (e : Expr) (t : L2.St → Hp → (Int → Int → Int → Hp → Prop) → Prop) : Prop :=
  ∀ (pins : List (Addr × Obj)) (s : Shared) (σ : L2.St) (H : Hp) (Q : Int → Int → Int → Hp → Prop), Inv X pins σ H s → t σ H Q →
    wpAny (model X.prog X.w) X.A (eval e X.env) (fun x s' => ∃ r a b c t u v H', x = .ref r ∧ IsRange s'.heap r a b c t u v ∧ Inv X pins σ H' s' ∧ Q a b c H') X.xe s
def tRg3 (ta tb tc : TE) : L2.St → Hp → (Int → Int → Int → Hp → Prop) → Prop := fun σ H Q => ta σ H fun x H1 => tb σ H1 fun y H2 => tc σ H2 fun z H3 => ∃ i j k, x = .int i ∧ y = .int j ∧ z = .int k ∧ k ≠ 0 ∧ k.natAbs < 1073741824 ∧ Q i j k H3
def tLstRg3 (te : L2.St → Hp → (Int → Int → Int → Hp → Prop) → Prop) : TE := fun σ H Q => te σ H fun a b c H1 => ∃ n : Nat, Builtin.Range.small a b c = true ∧ Builtin.Range.rangeSize a b c = n ∧ n ≤ 2 ^ 24 ∧ ∀ q, H1 q = none → Q (.ref q) (upd H1 q (.lst ((List.range n).map fun i => V.int (a + (i : Nat) * c))))
section
variable {X : Cx} {a b c : Expr} {ta tb tc : TE}
theorem prg_3 {p pos : Pos} (hg : Gl X "range") (hm : X.mg "range" = none) (ha : PE X a ta) (hb : PE X b tb) (hc : PE X c tc) (na : starEach [a, b, c] X.env = (false, eval a X.env) :: starEach [b, c] X.env := by rfl)
    (nb : starEach [b, c] X.env = (false, eval b X.env) :: starEach [c] X.env := by rfl) (nc : starEach [c] X.env = (false, eval c X.env) :: starEach [] X.env := by rfl) (hp : (backTo pos (starEach [b, c] X.env)).any (·.1) = false := by rfl) :
    PRg3 X (.Call (.Name "range" p) [a, b, c] [] pos) (tRg3 ta tb tc) := by
  intro pins s σ H Q I h
  refine Call_ (ld_blt I hg hm boot_range (PyProof.Rows.callWith_type1 (args_cons (thn (ha.run pins s σ H _ I h) fun v s1 ⟨x, H1, I1, r1, q1⟩ => args_cons (thn (hb.run pins s1 σ H1 _ I1 q1) fun v2 s2 ⟨y, H2, I2, r2, q2⟩ => one_arg hc I2 q2 (fun u s3 z H3 I3 r3 q => ?_) nc) nb) na) na hp))
  obtain ⟨i, j, k, rfl, rfl, rfl, k0, k1, q⟩ := q
  obtain ⟨t, rfl⟩ := r1
  obtain ⟨t', rfl⟩ := r2
  obtain ⟨t'', rfl⟩ := r3
  refine call_range_3 k0 ?_ (.inl (PyProof.noPylong_small k1))
  exact ⟨_, i, j, k, _, _, _, H3, rfl, IsRange.new _ _ _ _ _ _ _, I3.kept fun b u e => Heap.get?_push_of_some _ e, q⟩
theorem pe_listRg3 {e : Expr} {te : L2.St → Hp → (Int → Int → Int → Hp → Prop) → Prop} {p pos : Pos} (hc : X.calm = true) (hg : Gl X "list") (hm : X.mg "list" = none) (he : PRg3 X e te) (na : starEach [e] X.env = (false, eval e X.env) :: starEach [] X.env := by rfl) : PE X (.Call (.Name "list" p) [e] [] pos) (tLstRg3 te) := by
  refine ⟨fun pins s σ H Q I h => ?_⟩
  refine Call_ (ld_blt I hg hm boot_list (PyProof.Rows.callWith_type1 (args_cons (thn (he pins s σ H _ I h) fun x s1 ⟨r, a, b, c, t, u, v, H1, ex, hr, I1, n, ok1, ok2, ok3, q⟩ => args_nil ?_) na) na))
  subst ex
  refine call_list_range (n := n) (I1.ok.hd hc) hr ok1 ok2 ok3 fun h' tk acc c' hk e' hi => ?_
  have hv : Vals ((List.range n).map fun i => V.int (a + (i : Nat) * c)) acc.toList := by
    have e2 : acc.toList.length = n := by rw [Array.length_toList]; exact hi.1
    rw [← e2]
    refine vals_of_get acc.toList _ fun j u hj => ?_
    obtain ⟨t, rfl⟩ := hi.2 j u (by rw [← hj, Array.getElem?_toList])
    exact ⟨t, rfl⟩
  refine ⟨.ref s1.heap.objs.size, upd H1 s1.heap.objs.size (.lst ((List.range n).map fun i => V.int (a + (i : Nat) * c))), I1.laid hk (Nat.le_refl _) (show ObjOk X.prog X.w _ _ _ (.lst _) from ⟨?_, acc.toList, c', hv, ?_⟩), rfl, q _ (I1.hok.fresh (Nat.le_refl _))⟩
  · rw [List.length_map, List.length_range]; exact ok3
  · rw [Array.toArray_toList]; exact e'
end
theorem size_step {k n p : Nat} (hk : k < p) : Builtin.Range.rangeSize (k : Int) (n : Int) (p : Int) = ((stepN k n p : Nat) : Int) := by
  unfold Builtin.Range.rangeSize
  rw [if_pos (by omega)]
  unfold stepN
  by_cases h : k < n
  · rw [if_pos (by omega)]
    have e1 : (n : Int) - (k : Int) - 1 = ((n - k - 1 : Nat) : Int) := by omega
    have e2 : n + (p - 1 - k) = (n - k - 1) + p := by omega
    rw [e1, e2, Nat.add_div_right _ (by omega), ← Int.natCast_ediv]
    rfl
  · rw [if_neg (by omega), Nat.div_eq_of_lt (by omega)]
    rfl
theorem stepN_le {k n p : Nat} (hk : k < p) : stepN k n p ≤ n := by
  have h := step_filter hk n
  have h2 := congrArg List.length h
  rw [List.length_map, List.length_range] at h2
  rw [h2]
  exact Nat.le_trans (List.length_filter_le _ _) (by simp)
section
variable {K : PySem.W.Frag} {C : Cl} {σ : L2.St} {H : Hp} {Q : VK} {E : XK} {ta tb tc : TE} {a b p q : Addr} {xs : List V} {os : List Nat}
def kRg3 (Q : VK) : Int → Int → Int → Hp → Prop := fun a b c H1 => ∃ n : Nat, Builtin.Range.small a b c = true ∧ Builtin.Range.rangeSize a b c = n ∧ n ≤ 2 ^ 24 ∧ kNew (.lst ((List.range n).map fun i => V.int (a + (i : Nat) * c))) Q H1
theorem c_listRg3 {t : L2.St → Hp → (Int → Int → Int → Hp → Prop) → Prop} (k : t σ H (kRg3 Q)) : tLstRg3 t σ H Q := k
def kRg3c (q : Int → Int → Int → Hp → Prop) (x y : V) : VK := fun z H3 => ∃ i j k, x = .int i ∧ y = .int j ∧ z = .int k ∧ k ≠ 0 ∧ k.natAbs < 1073741824 ∧ q i j k H3
theorem c_rg3 {q : Int → Int → Int → Hp → Prop} (k : ta σ H fun x H1 => tb σ H1 fun y H2 => tc σ H2 (kRg3c q x y)) : tRg3 ta tb tc σ H q := k
/-- list(range(k, n, p)): one pile -/
theorem c_kStep {k n p : Nat} (hk : k < p) (hp : p ≤ 1000) (hn : n ≤ 1000) (kk : ∀ l H', H l = none → Same H H' → H' l = some (.lst (((List.range n).filter fun i => i % p == k).map vN)) → Q (.ref l) H') : kRg3c (kRg3 Q) (.int (k : Int)) (.int (n : Int)) (.int (p : Int)) H := by
  refine ⟨_, _, _, rfl, rfl, rfl, by omega, by omega, stepN k n p, ?_, size_step hk, Nat.le_trans (stepN_le hk) (by omega), c_new ?_⟩
  · have h1 := size_step (n := n) hk
    have h2 := stepN_le (n := n) hk
    unfold Builtin.Range.small
    rw [h1]
    simp only [Builtin.Range.rangeFitsLong, Bool.and_eq_true, Bool.or_eq_true, decide_eq_true_eq, beq_iff_eq]
    have h3 : (p : Int) > 0 := by omega
    rw [if_pos h3]
    have g : ∀ x : Int, -10000 ≤ x → x ≤ 10000 → (decide (-2 ^ 63 ≤ x) && decide (x < 2 ^ 63)) = true := fun x q1 q2 => by
      rw [Bool.and_eq_true, decide_eq_true_eq, decide_eq_true_eq]
      omega
    exact ⟨by omega, .inr (g _ (by omega) (by omega))⟩
  · have e : (List.range (stepN k n p)).map (fun i => V.int ((k : Int) + (i : Nat) * (p : Int))) = ((List.range n).filter fun i => i % p == k).map vN := by
      rw [← step_filter hk n, List.map_map]
      refine List.map_congr_left fun i _ => ?_
      show V.int _ = V.int _
      congr 1
    rw [e]
    exact kk
/-! ### slices past the end -/
theorem cut_drop (l : List Nat) (n : Nat) : cutV (l.map vN) (some (n : Int)) none = (l.drop n).map vN := by
  unfold cutV
  rw [HT.sIx_nat, List.length_map]
  simp only [HT.sIx]
  rw [List.take_of_length_le (by simp), List.map_drop]
  by_cases h : n ≤ l.length
  · rw [Nat.min_eq_left h]
  · rw [Nat.min_eq_right (by omega), List.drop_of_length_le (by simp), List.drop_of_length_le (by simp; omega)]
theorem c_slDrA {n : Nat} (h : SqL K H a (os.map vN)) (k : ∀ p H', H p = none → Same H H' → H' p = some (.lst ((os.drop n).map vN)) → Q (.ref p) H') : rSlL K (.ref a) (some (n : Int)) none H Q := by
  refine c_slL h fun p H' h1 h2 h3 => k p H' h1 h2 ?_
  rw [h3, cut_drop]
theorem c_sl12 (h : SqL K H a (os.map vN)) (k : ∀ p H', H p = none → Same H H' → H' p = some (.lst (((os.drop 1).take 1).map vN)) → Q (.ref p) H') : rSlL K (.ref a) (some 1) (some 2) H Q := by
  refine c_slL h fun p H' h1 h2 h3 => k p H' h1 h2 ?_
  rw [h3]
  congr 2
  match os with
  | [] => rfl
  | [x] => rfl
  | x :: y :: r =>
    unfold cutV
    have e1 : HT.sIx ((x :: y :: r).map vN).length 0 (some 1) = 1 := by
      have := HT.sIx_nat (n := ((x :: y :: r).map vN).length) (d := 0) (k := 1)
      rw [show (some 1 : Option Int) = some ((1 : Nat) : Int) from rfl, HT.sIx_nat]
      simp
    have e2 : HT.sIx ((x :: y :: r).map vN).length ((x :: y :: r).map vN).length (some 2) = 2 := by
      rw [show (some 2 : Option Int) = some ((2 : Nat) : Int) from rfl, HT.sIx_nat]
      simp
    rw [e1, e2]
    rfl
/-! ### new lists in a new list -/
def NewLists (H0 H : Hp) (p : Addr) (R : List (List Nat)) : Prop := ∃ zs : List (Addr × List Nat), H0 p = none ∧ Same H0 H ∧ H p = some (.lst (zs.map vA)) ∧ (∀ z ∈ zs, z.1 ≠ p ∧ H z.1 = some (.lst (z.2.map vN))) ∧ zs.map (·.2) = R
theorem l_lcNew1 {te : TE} {j : Nat} {e : Int} (n : Nat) (he0 : e = (n : Int)) (hn : n ≤ 1000000) {vs : List Nat} (f : Nat → List Nat) (hw : ∀ x, wipe ((wipe σ vs).set j (some x)) vs = wipe σ vs)
    (he : ∀ x H' (q : VK), x < n → Same H H' → (∀ p H'', H' p = none → Same H' H'' → H'' p = some (.lst ((f x).map vN)) → q (.ref p) H'') → te ((wipe σ vs).set j (some (vN x))) H' q)
    (k : ∀ p H', NewLists H H' p ((List.range n).map f) → Q (.ref p) H') : kLc1 (gName j) tYes te vs σ Q [.int e] H := by
  subst he0
  refine ⟨_, rfl, by omega, by omega, fun D hD => ?_⟩
  rw [Int.toNat_natCast]
  refine lc_range (lo := 0) (n := n) (fun i H' => Same H H' ∧ ∃ ys : List (Addr × List Nat), H' D = some (.lst (ys.map vA)) ∧ (∀ y ∈ ys, y.1 ≠ D ∧ H' y.1 = some (.lst (y.2.map vN))) ∧ ys.map (·.2) = (List.range i).map f) ⟨same_upd hD, [], upd_same, (fun _ h => absurd h (List.not_mem_nil)), rfl⟩ (fun i H' hi w => ?_) (fun H' w => ?_)
  · rw [Int.zero_add]
    obtain ⟨s, ys, h1, h2, h3⟩ := w
    refine ⟨hw _, ?_⟩
    refine c_yes.mpr ?_
    rw [if_pos rfl]
    refine he i H' _ hi s fun p H'' hp s' hp' => ?_
    have hl : ys.length = i := by
      have := congrArg List.length h3
      simpa using this
    have hpD : p ≠ D := ne_new h1 hp
    refine ⟨ys.map vA, s' _ _ h1, by rw [List.length_map, hl]; exact sz' (by omega), ?_, ys ++ [(p, f i)], ?_, fun y hy => ?_, ?_⟩
    · exact same_of_but hD (s.trans s') but_upd
    · rw [upd_same, List.map_append]
      rfl
    · rcases List.mem_append.mp hy with hy | hy
      · have := h2 y hy
        exact ⟨this.1, by rw [upd_ne this.1]; exact s' _ _ this.2⟩
      · rw [List.mem_singleton] at hy
        subst hy
        exact ⟨hpD, by rw [upd_ne hpD]; exact hp'⟩
    · rw [List.range_succ, List.map_append, List.map_append, h3]
      rfl
  · obtain ⟨s, ys, h1, h2, h3⟩ := w
    exact k D H' ⟨ys, hD, s, h1, h2, h3⟩
end
/-! ### moves told -/
def Mv.sort : Mv → Nat
  | .cut _ => 0 | .turn => 1 | .deal _ => 2 | .under => 3 | .weave _ => 4 | .riffle _ => 5
def Mv.thing : Mv → V
  | .cut n => vN n | .turn => .int 0 | .deal n => vN n | .under => .int 0 | .weave f => vN f | .riffle w => .str (wS w)
abbrev Told (K : PySem.W.Frag) (H : Hp) (t : Addr) (m : Mv) : Prop := SqT K H t [vN m.sort, m.thing]
def undoF (m : Mv) (os : List Nat) : List Nat := pick (invP (cameF m os.length)) os
def sp_undone (K : PySem.W.Frag) (C : Cl) : Kd → Sp := fun κ vs H Q _ => ∃ (p a : Addr) (m : Mv) (os : List Nat), vs = [.ref p, .ref a] ∧ m.kd = κ ∧ MvAt C H p m ∧ SqL K H a (os.map vN) ∧ Ord os ∧ m.Fits os.length ∧ RetL ((undoF m os).map vN) H Q
def doneAll (ms : List Mv) (os : List Nat) : List Nat := ms.foldl (fun o m => doneF m o) os
def sp_p_done_all (K : PySem.W.Frag) (C : Cl) : Sp := fun vs H Q _ => ∃ (a b : Addr) (ms : List Mv) (os : List Nat), vs = [.ref a, .ref b] ∧ Mvs K C H a ms ∧ SqL K H b (os.map vN) ∧ Ord os ∧ (∀ m ∈ ms, m.Fits os.length) ∧ RetL ((doneAll ms os).map vN) H Q
def sp_l_dealt (K : PySem.W.Frag) (C : Cl) : Sp := fun vs H Q _ => ∃ (a : Addr) (os : List Nat) (p : Nat), vs = [.ref a, vN p] ∧ SqL K H a (os.map vN) ∧ os.length ≤ 60 ∧ 1 ≤ p ∧ p ≤ 60 ∧ RetL ((pick (dealCame p os.length) os).map vN) H Q
def sp_l_under (K : PySem.W.Frag) (C : Cl) : Sp := fun vs H Q _ => ∃ (a : Addr) (os : List Nat), vs = [.ref a] ∧ SqL K H a (os.map vN) ∧ os.length ≤ 60 ∧ RetL ((pick (underCame os.length) os).map vN) H Q
def sp_l_moved (K : PySem.W.Frag) (C : Cl) : Sp := fun vs H Q _ => ∃ (a t : Addr) (os : List Nat) (m : Mv), vs = [.ref a, .ref t] ∧ SqL K H a (os.map vN) ∧ Told K H t m ∧ os.length ≤ 60 ∧ m.Ok ∧ m.Fits os.length ∧ RetL ((doneF m os).map vN) H Q
def sp_l_told (K : PySem.W.Frag) (C : Cl) : Sp := fun vs H Q _ => ∃ (c : Int) (n : Nat), vs = [.int c, vN n] ∧ 1 ≤ n ∧ n ≤ 60 ∧ ∀ (m : Mv) t H', m.Ok → m.Fits n → H t = none → Same H H' → H' t = some (.tup [vN m.sort, m.thing]) → Q (.ref t) H'
def sp_l_made (K : PySem.W.Frag) (C : Cl) : Sp := fun vs H Q _ => ∃ (t : Addr) (m : Mv), vs = [.ref t] ∧ Told K H t m ∧ m.Ok ∧ ∀ p H', H p = none → Same H H' → MvAt C H' p m → Q (.ref p) H'
def sp_l_sorts (K : PySem.W.Frag) (C : Cl) : Sp := fun vs H Q _ => ∃ (p : Addr) (m : Mv), vs = [.ref p] ∧ MvAt C H p m ∧ RetL (((List.range 6).map fun k => decide (k = m.sort)).map V.bl) H Q
def sp_l_right (K : PySem.W.Frag) (C : Cl) : Sp := fun vs H Q _ => ∃ (p t a : Addr) (m : Mv) (os : List Nat), vs = [.ref p, .ref t, .ref a] ∧ MvAt C H p m ∧ Told K H t m ∧ SqL K H a (os.map vN) ∧ Ord os ∧ m.Fits os.length ∧ RetV (.bl true) H Q
section
variable {K : PySem.W.Frag} {C : Cl} {H : Hp} {Q : VK} {E : XK} {a b p t : Addr} {os : List Nat} {m : Mv}
theorem told_same {H' : Hp} (s : Same H H') (h : Told K H t m) : Told K H' t m := st_same s h
theorem c_undone (hp : MvAt C H p m) (h : SqL K H a (os.map vN)) (ho : Ord os) (hf : m.Fits os.length) (k : ∀ q H', H q = none → Same H H' → H' q = some (.lst ((undoF m os).map vN)) → Q (.ref q) H') : sp_undone K C m.kd [.ref p, .ref a] H Q E := ⟨p, a, m, os, rfl, rfl, hp, h, ho, hf, k⟩
theorem c_dealt {n : Nat} (h : SqL K H a (os.map vN)) (hl : os.length ≤ 60) (h1 : 1 ≤ n) (h60 : n ≤ 60) (k : ∀ q H', H q = none → Same H H' → H' q = some (.lst ((pick (dealCame n os.length) os).map vN)) → Q (.ref q) H') : sp_l_dealt K C [.ref a, vN n] H Q E := ⟨a, os, n, rfl, h, hl, h1, h60, k⟩
theorem c_under (h : SqL K H a (os.map vN)) (hl : os.length ≤ 60) (k : ∀ q H', H q = none → Same H H' → H' q = some (.lst ((pick (underCame os.length) os).map vN)) → Q (.ref q) H') : sp_l_under K C [.ref a] H Q E := ⟨a, os, rfl, h, hl, k⟩
theorem c_moved (h : SqL K H a (os.map vN)) (ht : Told K H t m) (hl : os.length ≤ 60) (hok : m.Ok) (hf : m.Fits os.length) (k : ∀ q H', H q = none → Same H H' → H' q = some (.lst ((doneF m os).map vN)) → Q (.ref q) H') : sp_l_moved K C [.ref a, .ref t] H Q E := ⟨a, t, os, m, rfl, h, ht, hl, hok, hf, k⟩
theorem c_told {c : Int} {n : Nat} (h : 1 ≤ n ∧ n ≤ 60) (k : ∀ (m : Mv) t H', m.Ok → m.Fits n → H t = none → Same H H' → H' t = some (.tup [vN m.sort, m.thing]) → Q (.ref t) H') : sp_l_told K C [.int c, vN n] H Q E := ⟨c, n, rfl, h.1, h.2, k⟩
theorem c_made (ht : Told K H t m) (hok : m.Ok) (k : ∀ p H', H p = none → Same H H' → MvAt C H' p m → Q (.ref p) H') : sp_l_made K C [.ref t] H Q E := ⟨t, m, rfl, ht, hok, k⟩
theorem c_sorts (hp : MvAt C H p m) (k : ∀ q H', H q = none → Same H H' → H' q = some (.lst (((List.range 6).map fun k => decide (k = m.sort)).map V.bl)) → Q (.ref q) H') : sp_l_sorts K C [.ref p] H Q E := ⟨p, m, rfl, hp, k⟩
theorem c_right (hp : MvAt C H p m) (ht : Told K H t m) (h : SqL K H a (os.map vN)) (ho : Ord os) (hf : m.Fits os.length) (k : ∀ H', Same H H' → Q (.bl true) H') : sp_l_right K C [.ref p, .ref t, .ref a] H Q E := ⟨p, t, a, m, os, rfl, hp, ht, h, ho, hf, k⟩
theorem c_doneAll {ms : List Mv} (hm : Mvs K C H a ms) (h : SqL K H b (os.map vN)) (ho : Ord os) (hf : ∀ m ∈ ms, m.Fits os.length) (k : ∀ q H', H q = none → Same H H' → H' q = some (.lst ((doneAll ms os).map vN)) → Q (.ref q) H') : sp_p_done_all K C [.ref a, .ref b] H Q E := ⟨a, b, ms, os, rfl, hm, h, ho, hf, k⟩
end
end Rf

set_option Elab.async false
set_option linter.all false
set_option maxRecDepth 100000
set_option maxHeartbeats 4000000
/-! RfC: a comprehension that lets an exception out on every way; a try whose else is never reached. -/
namespace RfC
open PySem PySem.Spec PyProof.Rows L2
section
variable {M : Model} {A : Around} {E : Value → Shared → Prop} {s : Shared} {env : Env}
/-- how the block must end: with an exception, its names let go, passed on from the def's frame -/
def OutAt (M : Model) (A : Around) (E : Value → Shared → Prop) (C : Addr) (fr : Option Addr) : Result → Shared → Prop
  | .ok _, _ => False
  | .error x, s1 => ∃ m, s1.heap.Ns C m ∧ ∀ h2, Heap.SameBut C s1.heap h2 → ∀ ce : Env, ce.locals = C → ce.frame = fr → wpAny M A (passOn "comprehension.variables-let-go" x ce : Sem Value) (fun _ _ => False) E { s1 with heap := h2 }
theorem comp_out {e : Expr} {scope : Scope} {pos : Pos} {mk fst : Sem Value} {g : Comprehension} {gs : List Comprehension} {cl : List (Str × Addr)} {u : Option (Value → Sem Unit)} {Q : Value → Shared → Prop}
    (c1 : clausesOf e = g :: gs) (c2 : ∀ x, foldedSetIterable g.iter env x = pure x) (c3 : closureFor scope env = pure cl) (c4 : scope.kind = .function) (c5 : ∀ x ∈ scope.names, x.2 = .local → scope.names.lookup x.1 = some .local)
    (run : wpAny M A fst (fun x t1 => wpAny M A (pyIter x) (fun it t2 => wpAny M A mk (fun acc t3 => wpAny M A (newFunctionEnv scope env.globals cl [] env.qual none .none (some env)) (fun cv t4 =>
        codeAny M A (.compStart e 0 it acc { cv with scope := relabel scope env }) (OutAt M A E cv.locals cv.frame) t4) E t3) E t2) E t1) E s) :
    wpAny M A (comprehension e scope env pos mk false fst u) Q E s := by
  unfold comprehension
  rw [c3, c1]
  refine wpAny_bind (wpAny_mono run (fun x t1 k1 => ?_) fun _ _ y => y)
  refine wpAny_bind (wpAny_standAt (wpAny_bind (wpAny_of_eq (c2 x) (wpAny_bind (wpAny_holding (wpAny_mono k1 (fun it t2 k2 => ?_) fun _ _ y => y))))))
  refine wpAny_standIf (wpAny_bind (wpAny_mono k2 (fun acc t3 k3 => ?_) fun _ _ y => y))
  refine wpAny_bind (wpAny_pure (wpAny_bind (wpAny_mono k3 (fun cv t4 k4 => ?_) fun _ _ y => y)))
  dsimp only
  have loc : ∀ x ∈ (scope.names.filter fun x => (x.2 == .local || x.2 == .cell) && x.1 != (".0" : Str)).reverse, x.2 = .local → Env.kindOf { cv with scope := relabel scope env } x.1 = some .local :=
    fun x mx lx => lookup_relabel_local (c5 x (List.mem_filter.mp (List.mem_reverse.mp mx)).1 lx)
  refine wpAny_holding (wpAny_bind (wpAny_attempt (wpAny_holding (wpAny_run (codeAny_mono k4 fun r t5 end5 => ?_)))))
  cases r with
  | ok f => exact end5.elim
  | error x =>
    obtain ⟨m, ns5, go5⟩ := end5
    refine wpAny_bind (wpAny_holding (wpAny_comp_letGo (cenv := { cv with scope := relabel scope env }) c4 _ t5 m loc ns5 fun h6 m6 _ sb6 => ?_))
    exact wpAny_mono (go5 h6 sb6 _ rfl rfl) (fun _ _ y => y.elim) fun _ _ y => y
end
/-! ### C's object out of sight -/
def hid (C : Addr) (h : Heap) : Heap := PySem.W.hideAll h [C]
section
variable {C b : Addr} {h h2 B : Heap} {o : Obj}
theorem hid_get (e : h.get? b = some o) (n : b ≠ C) : (hid C h).get? b = some o := PySem.W.hideAll_get _ e (by simpa using n)
theorem hid_of (e : (hid C h).get? b = some o) : h.get? b = some o := PySem.W.of_hideAll _ e
theorem hid_gone : (hid C h).get? C = none := PySem.W.hideAll_none _ (List.mem_singleton.mpr rfl)
theorem hid_ne (e : (hid C h).get? b = some o) : b ≠ C := fun z => by
  rw [z, hid_gone] at e
  cases e
theorem hid_none (e : h.get? b = none) : (hid C h).get? b = none := by
  cases q : (hid C h).get? b with
  | none => rfl
  | some o =>
    rw [hid_of q] at e
    cases e
theorem frames_but : ∀ {l : List Env}, h.FunFrames B l → C ∉ frs l → Heap.SameBut C h h2 → h2.FunFrames (hid C B) l
  | [], _, _, _ => trivial
  | env :: l, ff, nC, sb => by
    obtain ⟨kd, ⟨L, o, hf, hn, ho, hd⟩, rest⟩ := ff
    have nL : L ≠ C := fun z => nC (List.mem_filterMap.mpr ⟨env, List.mem_cons_self, by rw [hf, z]⟩)
    refine ⟨kd, ⟨L, o, hf, hid_none hn, (sb.2 L nL).trans ho, hd⟩, frames_but rest (fun z => nC ?_) sb⟩
    obtain ⟨e, me, q⟩ := List.mem_filterMap.mp z
    exact List.mem_filterMap.mpr ⟨e, List.mem_cons_of_mem _ me, q⟩
theorem held_but {l : List Env} {a L : Addr} {Z : Obj → Prop} {oC : Obj} (x : HandSPX.HeldZ B l a Z L h) (hC : h.get? C = some oC) (nd : ∀ vs, oC.data ≠ .fields vs) (nC : C ∉ frs l) (sb : Heap.SameBut C h h2) : HandSPX.HeldZ (hid C B) l a Z L h2 := by
  obtain ⟨y1, y2, y3, oe, vs, T, oT, ts, g1, z1, g2, g3, n1, n2, g4, g5, g6⟩ := x
  have nT : T ≠ C := fun z => by
    rw [z, hC] at g4
    cases g4
    exact nd _ g5
  have na : a ≠ C := fun z => by
    rw [z, hC] at g1
    cases g1
    exact nd _ g2
  exact ⟨fun c o e => by rw [sb.2 c (hid_ne e)]; exact y1 c o (hid_of e), hid_none y2, frames_but y3 nC sb, oe, vs, T, oT, ts, (sb.2 a na).trans g1, z1, g2, g3, hid_none n1, n2, (sb.2 T nT).trans g4, g5, g6⟩
end
theorem note_same {e : Value} {e1 e2 : Env} (h : e1.frame = e2.frame) : noteFrame e e1 = noteFrame e e2 := by
  unfold PySem.noteFrame PySem.frameOf
  rw [h]
/-- the block's context, with its own way out -/
abbrev blkE (X : Cx) (s : Shared) (H : Hp) (scope : Scope) (cv : Env) (fp : List Addr) (xe : Value → Shared → Prop) : Cx := { X.blk s H scope cv fp with xe := xe }
section
variable {X : Cx} {pins : List (Addr × Obj)} {σ : L2.St} {H3 : Hp} {s3 : Shared} {scope : Scope} {ce : Env} {fp : List Addr} {W : WX} {E : XK}
/-- what a call in the block lets out, leaves the def -/
theorem blk_out (I3 : Inv X pins σ H3 s3) (f3 : ∀ b ∈ fp, FpOk X pins H3 b) (cL : ce.locals = s3.heap.objs.size) (cF : ce.frame = X.env.frame) (hst : X.stack = X.env :: X.outer) (hf : X.env.frame = some X.env.locals) (tk : L2N.Takes X W) (hW : ∀ cls d H', E cls d H' → W cls d σ H')
    (σ' : L2.St) : PassesAt (L2N.CX X.prog X.w) (blkE X s3 H3 scope ce fp (notedBy (model X.prog X.w) X.A ce fun e t => OutAt (model X.prog X.w) X.A X.xe s3.heap.objs.size X.env.frame (.error e) t)) σ' E := by
  intro pins' Hs s e s' Is c
  obtain ⟨a, B, H', cls, d, rfl, fl, hokB, ub, na, os, ag, hE⟩ := c
  have ub : UB (frs X.stack) Hs H' s.heap B s'.heap := ub
  have fl : HandSPX.FlyingZ B X.stack a (L2N.Zn cls d) s'.heap := fl
  have hfr : X.A.frames = some (X.env :: X.outer) := by rw [I3.ok.frames, hst]
  show wpAny (model X.prog X.w) X.A (noteFrame (.ref a) ce) _ _ s'
  rw [note_same cF]
  have fl' : HandSPX.FlyingZ B (X.env :: X.outer) a (L2N.Zn cls d) s'.heap := by rw [← hst]; exact fl
  refine PXN.looks_onZ L2N.Zn.steady hfr hf fl' fun h1 hh1 up1 => ?_
  generalize hCe : s3.heap.objs.size = C at *
  obtain ⟨m0, ⟨o0, es0, ep0, ho0, r0⟩, _⟩ := id Is.loc
  have ho0 : s.heap.get? ce.locals = some _ := ho0
  have HsC : Hs ce.locals = none := Is.free
  rw [cL] at ho0 HsC
  have fC : FpOk X pins (fun _ => none) C := I3.fpOk (Nat.le_of_eq hCe) rfl
  have nCf : C ∉ frs X.stack := fun z => by
    rcases List.mem_cons.mp (I3.stkSub C z) with z | z
    · exact fC.2.1 z
    · exact fC.2.2.1 z
  have kB := ub.keep C _ ho0 HsC nCf
  have kC := hh1.1 C _ kB
  refine ⟨m0, ⟨o0, es0, ep0, kC, r0⟩, fun h2 sb ce' e1 e2 => ?_⟩
  have hh2 := held_but hh1 kC (fun vs z => by rw [r0.1] at z; cases z) (by rw [← hst]; exact nCf) sb
  obtain ⟨_, _, _, oe, vs, T, oT, ts, g1, z1, g2, g3, n1, n2, g4, g5, g6⟩ := id hh2
  have H'C : H' C = none := ub.free C _ ho0 HsC
  have hokH : HOk X.prog X.w H' (hid C B) := fun b o q => (hokB b o q).stay (fun c u hc r => hid_get r fun z => by
    subst z
    rcases hc with hc | hc
    · subst hc
      rw [H'C] at q
      cases q
    · rw [H'C] at hc
      cases hc) (fun _ r => r) fun _ _ r => r
  unfold PySem.passOn
  refine wpAny_bind (wpAny_field g1 g2 g3 ?_)
  rw [if_neg (show ¬ ((Value.ref T == Value.none) = true) from by simp)]
  have fin : wpAny (model X.prog X.w) X.A (setFlight (.ref a) ce'.frame) (fun _ t => wpAny (model X.prog X.w) X.A (throw (.ref a) : Sem Value) (fun _ _ => False) X.xe t) X.xe { s' with heap := h2 } := by
    rw [e2, hf]
    refine HandSPX.setFlight_onZ hh2 fun h4 hh4 up4 => wpAny_throw (tk _ _ ?_)
    obtain ⟨G, q1, q2⟩ := restrict h4 fun b => ((hid C B).get? b).isSome || decide (b ∈ frs X.stack)
    have GB : ∀ b o, (hid C B).get? b = some o → G.get? b = some o := fun b o z => by
      rw [q1 b (by simp [z])]
      exact hh4.1 b o z
    have GF : ∀ b, b ∈ frs X.stack → G.get? b = h4.get? b := fun b mb => q1 b (by simp [mb])
    have GO : ∀ b o, G.get? b = some o → h4.get? b = some o ∧ (((hid C B).get? b).isSome = true ∨ b ∈ frs X.stack) := fun b o z => by
      cases q : (((hid C B).get? b).isSome || decide (b ∈ frs X.stack)) with
      | false =>
        rw [q2 b q] at z
        cases z
      | true =>
        rw [q1 b q] at z
        exact ⟨z, by simpa [Bool.or_eq_true] using q⟩
    have bs : Un (frs X.stack) fp H3 Hs s3.heap s.heap := Is.base
    have below : ∀ b o, s3.heap.get? b = some o → b ≠ C := fun b o z y => by
      have := Heap.lt_size z
      rw [y, hCe] at this
      exact Nat.lt_irrefl _ this
    have slots : ∀ b o, s3.heap.get? b = some o → H3 b = none → b ∈ frs X.stack → b ∉ fp → ∃ sl, h4.get? b = some { o with slots := sl } := fun b o z n mb mc => by
      obtain ⟨_, o', z', hnf⟩ := I3.stack.mem mb
      rw [z] at z'
      cases z'
      obtain ⟨w1, y1⟩ := bs.slot b o z n mb mc
      obtain ⟨w2, y2⟩ := ub.slot b _ y1 mb
      obtain ⟨w3, y3⟩ := up1 b _ y2 hnf
      have y4 := (sb.2 b (below b o z)).trans y3
      obtain ⟨w5, y5⟩ := up4 b _ y4 hnf
      exact ⟨w5, y5⟩
    have un : Un (frs X.stack) fp H3 H' s3.heap G := by
      refine ⟨fun b o z n mb mc => ?_, fun b o z n mb mc => ?_, fun b o z n mc => ?_, fun b o z mc => ?_, fun b xs z => ub.tups b xs (bs.tups b xs z), fun b o u z => ub.frzs b o u (bs.frzs b o u z), fun b ps z => ?_⟩
      · exact GB b o (hid_get (ub.keep b o (bs.keep b o z n mb mc) (bs.free b o z n mc) mb) (below b o z))
      · rw [GF b mb]
        exact slots b o z n mb mc
      · by_cases mb : b ∈ frs X.stack
        · obtain ⟨w1, y1⟩ := bs.slot b o z n mb mc
          exact ub.free b _ y1 (bs.free b o z n mc)
        · exact ub.free b o (bs.keep b o z n mb mc) (bs.free b o z n mc)
      · by_cases mb : b ∈ frs X.stack
        · obtain ⟨w1, y1⟩ := slots b o z (I3.stkFree b mb) mb mc
          exact ⟨_, by rw [GF b mb]; exact y1⟩
        · obtain ⟨o1, y1⟩ := bs.there b o z mc
          obtain ⟨o2, y2⟩ := ub.there b o1 y1 mb
          exact ⟨o2, GB b o2 (hid_get y2 (below b o z))⟩
      · obtain ⟨m1, y1⟩ := bs.tbls b ps z
        obtain ⟨m2, y2⟩ := ub.tbls b _ y1
        exact ⟨m1 ++ m2, by rw [y2, Array.append_assoc]⟩
    have J : Inv X pins σ H' { s3 with heap := G, gens := s'.gens, drawn := s'.drawn, toks := s'.toks } :=
      I3.call' (s' := { s3 with heap := G, gens := s'.gens, drawn := s'.drawn, toks := s'.toks }) (ch := fp) rfl un (hokH.kept GB) ag fun b hb => ⟨(f3 b hb).2.2.2.1, (f3 b hb).2.1, (f3 b hb).2.2.2.2.1, (f3 b hb).2.2.2.2.2⟩
    refine ⟨a, hid C B, _, pins, σ, H', cls, d, rfl, J, fun b o z nb => ?_, Heap.UpToSlots.of_keeps fun b o z => (GO b o z).1, .inr (.inr (by rw [hst]; exact hh4)), na, os.trans Is.os, ag, hW _ _ _ hE⟩
    obtain ⟨z1, z2⟩ := GO b o z
    rcases z2 with z2 | z2
    · obtain ⟨o', y⟩ := Option.isSome_iff_exists.mp z2
      have w := hh4.1 b o' y
      rw [z1] at w
      cases w
      exact y
    · exact absurd z2 nb
  first
    | exact wpAny_bind (wpAny_pure (wpAny_bind fin))
    | exact wpAny_bind fin
end
end RfC

set_option Elab.async false
set_option linter.all false
set_option maxRecDepth 100000
set_option maxHeartbeats 4000000
/-! RfC, part 2: the comprehension, the try. -/
namespace RfC
open PySem PySem.Spec PyProof.Rows L2
/-- [e for x in ..] that ends with an exception on every way: each turn there is one more item, and the step gives a value or lets out -/
def tLcB (wi : TI) (g : TG) (te : TE) (vs : List Nat) : L2.St → Hp → Prop := fun σ H => wi σ H fun J H1 => ∀ D, H1 D = none → ∃ W : Nat → Nat → Hp → Prop, (∃ m, W 0 m (upd H1 D (.lst []))) ∧ ∀ i m H, W i m H →
  J.go i H ∧ ∃ Nx : Hp → Prop, (∀ H', Nx H' → ∃ m', m' < m ∧ W (i + 1) m' H') ∧ ∀ x H', J.yld i H x H' → g x (wipe σ vs) H' fun σ2 H2 => wipe σ2 vs = wipe σ vs ∧ te σ2 H2 fun y H4 => ∃ acc, H4 D = some (.lst acc) ∧ acc.length < sizeLine ∧ Nx (upd H4 D (.lst (acc ++ [y])))
section
variable {X : Cx}
theorem lcb_core {pins : List (Addr × Obj)} {s : Shared} {σ : L2.St} {H : Hp} {elt tg iter : Expr} {scope : Scope} {own : List (Str × Nat)} {pos pos' : Pos} {wi : TI} {g : TG} {te : TE} {use : Option (Value → Sem Unit)} {Qf : Value → Shared → Prop} {W : WX} {E : XK}
    (hc : X.calm = true) (hst : X.stack = X.env :: X.outer) (hf : X.env.frame = some X.env.locals) (hN : X.N.Nodup) (I : Inv X pins σ H s) (hi : PI X tg iter wi) (ok : BlkOk X.N X.env.scope scope own)
    (hg : ∀ (s : Shared) (H : Hp) (C : Addr) (cl : List (Str × Addr)) (fp : List Addr), PG (X.blk s H scope (compEnvC scope cl C X.env) fp) tg g)
    (tk : L2N.Takes X W) (hW : ∀ cls d H', E cls d H' → W cls d σ H')
    (he : ∀ (s : Shared) (H : Hp) (C : Addr) (cl : List (Str × Addr)) (fp : List Addr) (xe : Value → Shared → Prop), (∀ σ', PassesAt (L2N.CX X.prog X.w) (blkE X s H scope (compEnvC scope cl C X.env) fp xe) σ' E) → PE (blkE X s H scope (compEnvC scope cl C X.env) fp xe) elt te)
    (hs : ∀ x, foldedSetIterable iter X.env x = pure x) (h : tLcB wi g te (own.map (·.2)) σ H) :
    wpAny (model X.prog X.w) X.A (comprehension (.ListComp elt [⟨tg, iter, [], 0⟩] scope pos) scope X.env pos' (newList []) false (eval iter X.env) use) Qf X.xe s := by
  have free : ∀ y ∈ scope.names, y.2 = .free → ∃ c, X.env.cells.lookup y.1 = some c := fun y my e => I.ok.has _ (ok.free y my e)
  refine comp_out (u := use) rfl hs (closure_ok free) ok.kind (fun y my e => by rw [ok.uniq y my, e]) (thn (hi.run pins s σ H _ I h) fun xv t1 k1 => thn k1 fun itv t2 k2 => ?_)
  obtain ⟨it, fp, tn, J, H2, e, I2, T, st2, f2, q⟩ := k2
  subst e
  refine wpAny_newObj_type (newEnv_comp ?_) (by show 0 ≤ sizeLine; decide)
  generalize hD : t2.heap.objs.size = D
  obtain ⟨Wt, ⟨m0, w0⟩, turn⟩ := q D (I2.hok.fresh (Nat.le_of_eq hD))
  generalize hs3 : ({ t2 with heap := t2.heap.push { cls := .type "list", data := .seq ([] : List Value).toArray } } : Shared) = t3
  have eh : t3.heap = t2.heap.push { cls := .type "list", data := .seq ([] : List Value).toArray } := by rw [← hs3]
  have I3 : Inv X pins σ (upd H2 D (.lst [])) t3 := by
    rw [← hs3]
    refine I2.laid (t' := t2.toks) (fun b o z => Heap.get?_push_of_some _ z) (Nat.le_of_eq hD) ⟨Nat.zero_le _, [], 0, .nil, ?_⟩
    rw [← hD]
    exact Heap.get?_push_size _ rfl
  have f3 : ∀ b ∈ fp, FpOk X pins (upd H2 D (.lst [])) b ∧ b < t3.heap.objs.size := fun b mb => by
    obtain ⟨o, z, _⟩ := T.obj _ _ st2 b mb
    have lt := Heap.lt_size z
    refine ⟨⟨?_, (f2 b mb).2⟩, by rw [eh, Heap.size_push]; exact Nat.lt_succ_of_lt lt⟩
    rw [upd_ne (by rw [← hD]; exact Nat.ne_of_lt lt)]
    exact (f2 b mb).1
  have st3 : tn 0 t3.heap := T.keep _ _ _ st2 fun b _ o z => by rw [eh]; exact Heap.get?_push_of_some _ z
  have I4 := block_start I3 ok hN f3
  have pg := hg t3 (upd H2 D (.lst [])) t3.heap.objs.size (cellsFrom (t3.heap.objs.size + 1) scope.names (cloFrom X.env.cells scope.names [])) fp
  have pe := he t3 (upd H2 D (.lst [])) t3.heap.objs.size (cellsFrom (t3.heap.objs.size + 1) scope.names (cloFrom X.env.cells scope.names [])) fp
  have out := fun σ' => @blk_out X pins σ (upd H2 D (.lst [])) t3 scope (compEnvC scope (cellsFrom (t3.heap.objs.size + 1) scope.names (cloFrom X.env.cells scope.names [])) t3.heap.objs.size X.env) fp W E I3 (fun b mb => (f3 b mb).1) rfl rfl hst hf tk hW σ'
  have nfp : ∀ b ∈ fp, (upd H2 D (.lst [])) b = none := fun b mb => (f3 b mb).1.1
  have cL : (compEnvC scope (cellsFrom (t3.heap.objs.size + 1) scope.names (cloFrom X.env.cells scope.names [])) t3.heap.objs.size X.env).locals = t3.heap.objs.size := rfl
  show codeAny _ _ (.compStart (.ListComp elt [⟨tg, iter, [], 0⟩] scope pos) 0 (.ref it) (.ref D) (compEnvC scope (cellsFrom (t3.heap.objs.size + 1) scope.names (cloFrom X.env.cells scope.names [])) t3.heap.objs.size X.env)) (OutAt (model X.prog X.w) X.A X.xe t3.heap.objs.size X.env.frame) { t3 with heap := pushCells (t3.heap.push { cls := .type "dict", data := .dict #[] }) scope.names }
  generalize hce : compEnvC scope (cellsFrom (t3.heap.objs.size + 1) scope.names (cloFrom X.env.cells scope.names [])) t3.heap.objs.size X.env = cv at I4 pg pe out cL ⊢
  generalize hH3 : upd H2 D (.lst []) = H3 at I3 I4 pg pe out w0 nfp f3
  generalize hs4 : ({ t3 with heap := pushCells (t3.heap.push { cls := .type "dict", data := .dict #[] }) scope.names } : Shared) = t4 at I4 ⊢
  have st4 : tn 0 t4.heap := T.keep _ _ _ st3 fun b _ o z => by rw [← hs4]; exact pushCells_keeps _ _ _ _ (Heap.get?_push_of_some _ z)
  have stat : ∀ {σ' : L2.St} {H' : Hp} {t : Shared}, Inv (X.blk t3 H3 scope cv fp) [] σ' H' t → (∀ b ∈ fp, H' b = none) → ∀ b ∈ fp, FpOk (X.blk t3 H3 scope cv fp) [] H' b := fun {σ' H' t} I' nn b mb =>
    ⟨nn b mb, (I'.ok.exf b mb).1, I'.ok.exfs b mb, .inl mb, fun x c z => (I'.ok.exf b mb).2 x c z, fun p mp => absurd (show p ∈ ([] : List (Addr × Obj)) ++ [] from mp) (by simp)⟩
  refine codeAny_compStart_list (R := OutAt (model X.prog X.w) X.A X.xe t3.heap.objs.size X.env.frame) ?L (T.self X.A 0 _ _ _ st4 ?L)
  refine compLoop_any (fun n t => ∃ i H', Inv (X.blk t3 H3 scope cv fp) [] (wipe σ (own.map (·.2))) H' t ∧ tn i t.heap ∧ (∀ b ∈ fp, H' b = none) ∧ Wt i n H') ?_ m0 ⟨0, H3, I4, st4, nfp, w0⟩
  rintro n t5 ⟨i, H5, I5, st5, n5, w5⟩
  obtain ⟨go, Nx, toN, step⟩ := turn i n H5 w5
  have ti := T.item (X.blk t3 H3 scope cv fp) rfl rfl rfl hc i [] t5 _ H5 (fun _ _ => False) I5 (stat I5 n5) st5 go
  refine thnF ti fun r t6 ⟨u, hr, k6⟩ => ?_
  subst hr
  refine thnF k6 fun _ t7 ⟨x, H7, I7, r7, y7, st7, n7⟩ => ?_
  have I7' := I7.pinned (stat I7 n7) (T.obj _ _ st7)
  refine thnF (pg.run _ t7 _ H7 x u _ I7' r7 (step x H7 y7)) fun _ t8 ⟨σ8, H8, I8, w8, q8⟩ => ?_
  refine thnF ((pts_nil (X := X.blk t3 H3 scope cv fp)).run _ t8 σ8 H8 (fun b Hb => b = true ∧ Hb = H8) I8 ⟨rfl, rfl⟩) fun b t9 ⟨H9, I9, q9⟩ => ?_
  obtain ⟨rfl, rfl⟩ := q9
  simp only [if_true]
  refine wpAny_mono ((pe _ out).run _ t9 σ8 H9 _ (I9.wish _) q8) (fun z t10 ⟨yv, H10, I10, r10, acc, hD10, hz10, nx⟩ => ?_) (fun _ _ y => y)
  have I10 : Inv (X.blk t3 H3 scope cv fp) ([] ++ pinsAt fp t7.heap) σ8 H10 t10 := Inv.wish (X := blkE X t3 H3 scope cv fp _) I10 (fun _ _ => False)
  refine app_ok (X := X.blk t3 H3 scope cv fp) I10 hD10 hz10 r10 fun t11 I11 => ?_
  obtain ⟨m', lt, w'⟩ := toN _ nx
  have pin' : ∀ b ∈ fp, ∀ o, t7.heap.get? b = some o → t11.heap.get? b = some o ∧ (upd H10 D (.lst (acc ++ [yv]))) b = none := fun b mb o z =>
    let y := I11.pin (b, o) (List.mem_append_right _ (List.mem_append_right _ (mem_pinsAt mb z)))
    ⟨y.1, y.2.1⟩
  have hl : (wipe σ (own.map (·.2))).length = σ8.length := by rw [← w8, wipe_length]
  refine ⟨m', lt, i + 1, _, (I11.unpinned (pins := [])).weak hl (fun j v z => ?_), T.keep _ _ _ st7 fun b mb o z => (pin' b mb o z).1, fun b mb => ?_, w'⟩
  · rw [← w8] at z
    exact (wipe_some z).1
  · obtain ⟨o, z, _⟩ := T.obj _ _ st7 b mb
    exact (pin' b mb o z).2
/-- name = [..] on one line, in a try -/
theorem ps_setLcB {i : Nat} {y : Str} {py : Pos} {elt tg iter : Expr} {scope : Scope} {own : List (Str × Nat)} {pos spos : Pos} {wi : TI} {g : TG} {te : XK → TE} {W : WX}
    (hc : X.calm = true) (hst : X.stack = X.env :: X.outer) (hf : X.env.frame = some X.env.locals) (hN : X.N.Nodup)
    (hsw : swapsWith (.ListComp elt [⟨tg, iter, [], 0⟩] scope pos) (some (.Name y py)) spos.line X.env = pure true) (hi : PI X tg iter wi) (ok : BlkOk X.N X.env.scope scope own)
    (hg : ∀ (s : Shared) (H : Hp) (C : Addr) (cl : List (Str × Addr)) (fp : List Addr), PG (X.blk s H scope (compEnvC scope cl C X.env) fp) tg g)
    (tk : L2N.Takes X W)
    (he : ∀ (σ : L2.St) (s : Shared) (H : Hp) (C : Addr) (cl : List (Str × Addr)) (fp : List Addr) (xe : Value → Shared → Prop), (∀ σ', PassesAt (L2N.CX X.prog X.w) (blkE X s H scope (compEnvC scope cl C X.env) fp xe) σ' (fun cls d H' => W cls d σ H')) → PE (blkE X s H scope (compEnvC scope cl C X.env) fp xe) elt (te (fun cls d H' => W cls d σ H')))
    (hs : ∀ x, foldedSetIterable iter X.env x = pure x := by intro _; rfl) :
    PS X (.Assign [.Name y py] (.ListComp elt [⟨tg, iter, [], 0⟩] scope pos) spos) (fun _ σ H => tLcB wi g (te (fun cls d H' => W cls d σ H')) (own.map (·.2)) σ H) := by
  refine ⟨fun pins s σ H D I h => ?_⟩
  rw [exec_Assign_Name_used _ _ _ _ hsw]
  refine wpAny_bind (wpAny_standAt (wpAny_bind ?_))
  show wpAny _ X.A (do let _ ← comprehension (.ListComp elt [⟨tg, iter, [], 0⟩] scope pos) scope X.env (firstIterPos [⟨tg, iter, [], 0⟩] pos) (newList []) false (eval iter X.env) (some (assign (.Name y py) X.env))) _ _ s
  refine wpAny_bind (wpAny_mono (lcb_core (Qf := fun _ _ => False) (E := fun cls d H' => W cls d σ H') hc hst hf hN I hi ok hg tk (fun _ _ _ z => z) (he σ) hs h) (fun _ _ z => z.elim) fun _ _ z => z)
end
/-! ### try .. except .. else, where neither the body nor the suite ends by itself -/
section
variable {prog : Program} {w : World} {A : Around} {E : Value → Shared → Prop} {s : Shared} {env : Env}
theorem try_else {body orelse : List Stmt} {hs : List ExceptHandler} {pos : Pos} {Q : Flow → Shared → Prop}
    (h : wpAny (model prog w) A (exec (.Try body hs [] [] pos) env) (fun f t => f ≠ .next ∧ Q f t) E s) : wpAny (model prog w) A (exec (.Try body hs orelse [] pos) env) Q E s := by
  intro Γ p hΓ
  have h := h Γ p hΓ
  rw [arm_exec_Try] at h ⊢
  rw [Sem.wp_bind'] at h ⊢
  refine Sem.wp_mono _ Γ _ (fun a p1 t1 k => ?_) (fun _ _ _ k => k) p s h
  unfold tryStmt at k ⊢
  simp only [List.isEmpty_nil, if_true] at k ⊢
  rw [Sem.wp_bind'] at k ⊢
  refine Sem.wp_mono _ Γ _ (fun r p2 t2 k2 => ?_) (fun _ _ _ z => z) p1 t1 k
  cases r with
  | ok f =>
    cases f with
    | next => exact absurd rfl (show Flow.next ≠ Flow.next ∧ Q Flow.next t2 from k2).1
    | brk => exact (show _ ∧ Q Flow.brk t2 from k2).2
    | cont => exact (show _ ∧ Q Flow.cont t2 from k2).2
    | ret v => exact (show _ ∧ Q (Flow.ret v) t2 from k2).2
  | error e => exact Sem.wp_mono _ Γ _ (fun _ _ _ z => z.2) (fun _ _ _ z => z) p2 t2 k2
/-- as a rule: where nothing comes out at the end -/
theorem ps_else {X : Cx} {body orelse : List Stmt} {hs : List ExceptHandler} {pos : Pos} {t : TS} (h : PS X (.Try body hs [] [] pos) t) : PS X (.Try body hs orelse [] pos) (fun D σ H => t { D with nx := fun _ _ => False } σ H) := by
  refine ⟨fun pins s σ H D I q => try_else (wpAny_mono (h.run pins s σ H _ I q) (fun f u z => ?_) fun _ _ z => z)⟩
  cases f with
  | next =>
    obtain ⟨_, _, _, z⟩ := z
    exact z.elim
  | brk => exact ⟨(fun e => by cases e), z⟩
  | cont => exact ⟨(fun e => by cases e), z⟩
  | ret v => exact ⟨(fun e => by cases e), z⟩
end
end RfC

set_option Elab.async false
set_option linter.all false
set_option maxRecDepth 100000
set_option maxHeartbeats 4000000
/-! Rf, part 13: routines as texts. -/
namespace Rf
open PySem PySem.Spec L2 Rm
abbrev figs : Str := Str.ofString "0123456789"
abbrev blnk : Str := Str.ofString " "
abbrev semi : Str := Str.ofString "; "
/-! ### strip -/
theorem tw_mem {p : Nat → Bool} : ∀ {l : List Nat} {x : Nat}, x ∈ l.takeWhile p → p x = true
  | [], _, h => by simp at h
  | a :: l, x, h => by
    rw [List.takeWhile_cons] at h
    by_cases q : p a = true
    · rw [if_pos q] at h
      rcases List.mem_cons.mp h with rfl | h
      · exact q
      · exact tw_mem h
    · rw [if_neg q] at h
      simp at h
theorem tw_drop {p : Nat → Bool} : ∀ l : List Nat, l.drop (l.takeWhile p).length = l.dropWhile p
  | [] => rfl
  | a :: l => by
    rw [List.takeWhile_cons, List.dropWhile_cons]
    by_cases q : p a = true
    · rw [if_pos q, if_pos q, List.length_cons, List.drop_succ_cons, tw_drop l]
    · rw [if_neg q, if_neg q]
      rfl
theorem strip_all {w u : Str} (h : Txt.stripChars w u = "") : ∀ c ∈ w.cps.toList, u.cps.contains c = true := by
  rw [Txt.stripChars, PySem.W.stripBy_eq] at h
  unfold PySem.W.stripped at h
  simp only [if_true] at h
  generalize hp : u.cps.contains = p at h
  have hp' : ∀ c, u.cps.contains c = p c := fun c => by rw [← hp]
  have hl : w.length = w.cps.toList.length := by simp [Str.length]
  rw [hl] at h
  have hx : (w.cps.toList.drop (w.cps.toList.takeWhile p).length) = [] := by
    cases hd : w.cps.toList.drop (w.cps.toList.takeWhile p).length with
    | nil => rfl
    | cons x r =>
      exfalso
      have hx0 : p x = false := by
        have e := List.takeWhile_append_dropWhile (p := p) (l := w.cps.toList)
        have hd2 : w.cps.toList.dropWhile p = x :: r := by rw [← tw_drop, hd]
        have := List.head?_dropWhile_not p w.cps.toList
        rw [hd2] at this
        simpa using this
      rw [hd] at h
      have hj : ((x :: r).reverse.takeWhile p).length ≤ r.length := by
        rw [List.reverse_cons]
        by_cases q : ∀ y ∈ r.reverse, p y = true
        · rw [List.takeWhile_append_of_pos q, List.takeWhile_cons, if_neg (by simp [hx0])]
          simp
        · have : (r.reverse ++ [x]).takeWhile p = r.reverse.takeWhile p := by
            rw [List.takeWhile_append]
            rw [if_neg]
            intro z
            apply q
            intro y hy
            have h1 := List.takeWhile_prefix (p := p) (l := r.reverse)
            have h2 := List.IsPrefix.eq_of_length h1 z
            rw [← h2] at hy
            exact (tw_mem hy)
          rw [this]
          exact Nat.le_trans (List.takeWhile_prefix (p := p) (l := r.reverse)).length_le (by simp)
      have hlen := congrArg List.length hd
      rw [List.length_drop, List.length_cons] at hlen
      have he := congrArg (fun z : Str => z.cps.size) h
      simp only [Builtin.Str.strSub, Array.size_extract] at he
      have hz : ("" : Str).cps.size = 0 := rfl
      rw [hz] at he
      have hs : w.cps.size = w.cps.toList.length := by simp
      rw [hs] at he
      omega
  intro c hc
  have e := List.takeWhile_append_dropWhile (p := p) (l := w.cps.toList)
  have hk := List.drop_eq_nil_iff.mp hx
  have h1 := List.takeWhile_prefix (p := p) (l := w.cps.toList)
  have h2 := List.IsPrefix.eq_of_length h1 (Nat.le_antisymm h1.length_le hk)
  rw [← h2] at hc
  exact tw_mem hc
/-! ### numbers -/
/-- a number's text, without a needless nought -/
def DigOk (r : Str) : Prop := (1 ≤ r.length ∧ r.length ≤ 2) ∧ Txt.stripChars r figs = "" ∧ ¬ (r.cps.toList.head? = some 48 ∧ r ≠ "0")
theorem fig_of {c : Nat} (h : figs.cps.contains c = true) : 48 ≤ c ∧ c ≤ 57 := by
  have : c ∈ [48, 49, 50, 51, 52, 53, 54, 55, 56, 57] := by
    have h2 : c ∈ figs.cps.toList := by simpa using h
    exact h2
  simp only [List.mem_cons, List.not_mem_nil, or_false] at this
  omega
theorem dig_num {r : Str} (h : DigOk r) : ∃ n : Nat, n ≤ 99 ∧ PySem.intText? r = some (n : Int) ∧ r = Str.ofString (toString (n : Int)) := by
  obtain ⟨⟨h1, h2⟩, h3, h4⟩ := h
  have hall := strip_all h3
  have hr : r = ⟨r.cps.toList.toArray⟩ := by cases r; simp
  have hl : r.length = r.cps.toList.length := by simp [Str.length]
  rw [hl] at h1 h2
  generalize r.cps.toList = l at *
  subst hr
  match l, h1, h2 with
  | [a], _, _ =>
    have ha := fig_of (hall a (by simp))
    have : ∀ i : Fin 10, ∃ n : Nat, n ≤ 99 ∧ PySem.intText? ⟨#[48 + i.val]⟩ = some (n : Int) ∧ (⟨#[48 + i.val]⟩ : Str) = Str.ofString (toString (n : Int)) := fun i => ⟨i.val, by omega, by revert i; decide +kernel, by revert i; decide +kernel⟩
    have := this ⟨a - 48, by omega⟩
    have e : 48 + (a - 48) = a := by omega
    simp only [e] at this
    exact this
  | [a, b], _, _ =>
    have ha := fig_of (hall a (by simp))
    have hb := fig_of (hall b (by simp))
    have ha0 : a ≠ 48 := fun e => by
      subst e
      exact h4 ⟨rfl, fun z => by
        have := congrArg (fun x : Str => x.cps.size) z
        have hz : ("0" : Str).cps.size = 1 := rfl
        simp only [hz] at this
        simp at this⟩
    have : ∀ i : Fin 9, ∀ j : Fin 10, PySem.intText? ⟨#[49 + i.val, 48 + j.val]⟩ = some (((i.val + 1) * 10 + j.val : Nat) : Int) ∧ (⟨#[49 + i.val, 48 + j.val]⟩ : Str) = Str.ofString (toString (((i.val + 1) * 10 + j.val : Nat) : Int)) := by decide +kernel
    have := this ⟨a - 49, by omega⟩ ⟨b - 48, by omega⟩
    have e : 49 + (a - 49) = a := by omega
    have e2 : 48 + (b - 48) = b := by omega
    simp only [e, e2] at this
    exact ⟨_, by omega, this.1, this.2⟩
/-- a number's own text is one -/
theorem num_dig {n : Nat} (h : n ≤ 60) : DigOk (Str.ofString (toString (n : Int))) ∧ PySem.intText? (Str.ofString (toString (n : Int))) = some (n : Int) := by
  have h1 : ∀ i : Fin 61, (1 ≤ (Str.ofString (toString ((i.val : Nat) : Int))).length ∧ (Str.ofString (toString ((i.val : Nat) : Int))).length ≤ 2) ∧ Txt.stripChars (Str.ofString (toString ((i.val : Nat) : Int))) figs = "" ∧ ¬ ((Str.ofString (toString ((i.val : Nat) : Int))).cps.toList.head? = some 48 ∧ Str.ofString (toString ((i.val : Nat) : Int)) ≠ "0") ∧ PySem.intText? (Str.ofString (toString ((i.val : Nat) : Int))) = some (i.val : Int) := by decide +kernel
  obtain ⟨a, b, c, d⟩ := h1 ⟨n, by omega⟩
  exact ⟨⟨a, b, c⟩, d⟩
/-! ### words -/
def WordOk (r : Str) : Prop := (1 ≤ r.length ∧ r.length ≤ 60) ∧ Txt.stripChars r "ab" = ""
theorem word_of {r : Str} (h : WordOk r) : ∃ w : List Bool, r = wS w ∧ 1 ≤ w.length ∧ w.length ≤ 60 := by
  obtain ⟨⟨h1, h2⟩, h3⟩ := h
  have hall := strip_all h3
  have hr : r = ⟨r.cps.toList.toArray⟩ := by cases r; simp
  have hl : r.length = r.cps.toList.length := by simp [Str.length]
  rw [hl] at h1 h2
  generalize r.cps.toList = l at *
  subst hr
  refine ⟨l.map fun c => decide (c = 97), ?_, by simpa using h1, by simpa using h2⟩
  unfold wS
  congr 1
  rw [List.map_map]
  have : l = l.map ((fun b => if b = true then 97 else 98) ∘ fun c => decide (c = 97)) := by
    conv => lhs; rw [← List.map_id l]
    refine List.map_congr_left fun c hc => ?_
    have h5 := hall c hc
    have h6 : c ∈ [97, 98] := by
      have : c ∈ (Str.ofString "ab").cps.toList := by simpa using h5
      exact this
    simp only [List.mem_cons, List.not_mem_nil, or_false] at h6
    rcases h6 with rfl | rfl <;> rfl
  rw [← this]
theorem word_ok {w : List Bool} (h1 : 1 ≤ w.length) (h2 : w.length ≤ 60) : WordOk (wS w) := by
  have hl : (wS w).length = w.length := by
    show ((w.map fun b => if b = true then 97 else 98).toArray).size = _
    simp
  exact ⟨⟨by omega, by omega⟩, strip_ab w⟩
end Rf

set_option Elab.async false
set_option linter.all false
set_option maxRecDepth 100000
set_option maxHeartbeats 4000000
/-! Rf, part 14: what writes a move; promises of the readers. -/
namespace Rf
open PySem PySem.Spec L2 Rm
/-- a text that writes a move -/
def Good (u : Str) : Prop := ∃ m : Mv, m.Ok ∧ mvText m = u
abbrev numS (n : Nat) : Str := Str.ofString (toString (n : Int))
def tri : Mv → Str × Str × Str
  | .cut n => ("cut", blnk, numS n) | .turn => ("turn", Str.empty, Str.empty) | .deal n => ("deal", blnk, numS n) | .under => ("under", Str.empty, Str.empty)
  | .weave f => ("weave", blnk, numS f) | .riffle w => ("riffle", blnk, wS w)
theorem tl_blnk : TL.tl blnk = [32] := by decide +kernel
theorem part_text (m : Mv) : Txt.partition (mvText m) blnk = tri m := by
  cases m with
  | turn => exact TL.partition_none tl_blnk (by decide +kernel)
  | under => exact TL.partition_none tl_blnk (by decide +kernel)
  | cut n =>
    have e : Str.ofString "cut " = Str.ofString "cut" ++ blnk := by decide +kernel
    show Txt.partition (Str.ofString "cut " ++ numS n) blnk = _
    rw [e]
    exact TL.partition_app tl_blnk (by decide +kernel)
  | deal n =>
    have e : Str.ofString "deal " = Str.ofString "deal" ++ blnk := by decide +kernel
    show Txt.partition (Str.ofString "deal " ++ numS n) blnk = _
    rw [e]
    exact TL.partition_app tl_blnk (by decide +kernel)
  | weave n =>
    have e : Str.ofString "weave " = Str.ofString "weave" ++ blnk := by decide +kernel
    show Txt.partition (Str.ofString "weave " ++ numS n) blnk = _
    rw [e]
    exact TL.partition_app tl_blnk (by decide +kernel)
  | riffle w =>
    have e : Str.ofString "riffle " = Str.ofString "riffle" ++ blnk := by decide +kernel
    show Txt.partition (Str.ofString "riffle " ++ wS w) blnk = _
    rw [e]
    exact TL.partition_app tl_blnk (by decide +kernel)
theorem str_mk (u : Str) : u = ⟨(TL.tl u).toArray⟩ := by cases u; simp [TL.tl]
theorem part_cases (u : Str) : (∃ a b, u = a ++ blnk ++ b ∧ Txt.partition u blnk = (a, blnk, b)) ∨ Txt.partition u blnk = (u, Str.empty, Str.empty) := by
  by_cases h : 32 ∈ TL.tl u
  · left
    obtain ⟨p, q, e, hp⟩ : ∃ p q, TL.tl u = p ++ 32 :: q ∧ 32 ∉ p := by
      generalize TL.tl u = l at h
      induction l with
      | nil => simp at h
      | cons a l ih =>
        by_cases q : a = 32
        · exact ⟨[], l, by rw [q]; rfl, by simp⟩
        · rcases List.mem_cons.mp h with h | h
          · exact absurd h.symm q
          · obtain ⟨p, r, e, hp⟩ := ih h
            refine ⟨a :: p, r, by rw [e]; rfl, fun z => ?_⟩
            rcases List.mem_cons.mp z with z | z
            · exact q z.symm
            · exact hp z
    have eu : u = (⟨p.toArray⟩ : Str) ++ blnk ++ (⟨q.toArray⟩ : Str) := by
      refine TL.ext_tl ?_
      rw [TL.tl_append, TL.tl_append, tl_blnk, e]
      simp [TL.tl]
    refine ⟨⟨p.toArray⟩, ⟨q.toArray⟩, eu, ?_⟩
    conv => lhs; rw [eu]
    exact TL.partition_app tl_blnk (by simpa [TL.tl] using hp)
  · exact .inr (TL.partition_none tl_blnk h)
theorem good_cut {r : Str} {n : Nat} (h : r = numS n) (hn : n ≤ 60) : Good (Str.ofString "cut" ++ blnk ++ r) := ⟨.cut n, hn, by
  have e : Str.ofString "cut " = Str.ofString "cut" ++ blnk := by decide +kernel
  rw [h, ← e]; rfl⟩
theorem good_deal {r : Str} {n : Nat} (h : r = numS n) (h1 : 1 ≤ n) (hn : n ≤ 60) : Good (Str.ofString "deal" ++ blnk ++ r) := ⟨.deal n, ⟨h1, hn⟩, by
  have e : Str.ofString "deal " = Str.ofString "deal" ++ blnk := by decide +kernel
  rw [h, ← e]; rfl⟩
theorem good_weave {r : Str} {n : Nat} (h : r = numS n) (hn : n ≤ 1) : Good (Str.ofString "weave" ++ blnk ++ r) := ⟨.weave n, hn, by
  have e : Str.ofString "weave " = Str.ofString "weave" ++ blnk := by decide +kernel
  rw [h, ← e]; rfl⟩
theorem good_riffle {r : Str} (h : WordOk r) : Good (Str.ofString "riffle" ++ blnk ++ r) := by
  obtain ⟨w, rfl, h1, h2⟩ := word_of h
  refine ⟨.riffle w, ⟨h1, h2⟩, ?_⟩
  have e : Str.ofString "riffle " = Str.ofString "riffle" ++ blnk := by decide +kernel
  rw [← e]; rfl
/-! ### a routine's text -/
theorem no_semi {m : Mv} (h : m.Ok) : 59 ∉ TL.tl (mvText m) := by
  have hn : ∀ n : Nat, n ≤ 60 → 59 ∉ TL.tl (numS n) := fun n hn => by
    have : ∀ i : Fin 61, 59 ∉ TL.tl (numS i.val) := by decide +kernel
    exact this ⟨n, by omega⟩
  have cat : ∀ a b : Str, 59 ∉ TL.tl a → 59 ∉ TL.tl b → 59 ∉ TL.tl (a ++ b) := fun a b ha hb z => by
    rw [TL.tl_append] at z
    rcases List.mem_append.mp z with z | z
    · exact ha z
    · exact hb z
  cases m with
  | turn => decide +kernel
  | under => decide +kernel
  | cut n => exact cat _ _ (by decide +kernel) (hn n h)
  | deal n => exact cat _ _ (by decide +kernel) (hn n h.2)
  | weave n => exact cat _ _ (by decide +kernel) (hn n (Nat.le_trans h (by decide)))
  | riffle w =>
    refine cat _ _ (by decide +kernel) fun z => ?_
    have : TL.tl (wS w) = w.map cd := wS_list w
    rw [this] at z
    obtain ⟨b, _, e⟩ := List.mem_map.mp z
    cases b <;> exact absurd e (by decide)
theorem tl_semi : TL.tl semi = [59, 32] := by decide +kernel
theorem split_routine {ms : List Mv} (h : ∀ m ∈ ms, m.Ok) (hne : ms ≠ []) : Txt.split (routine ms) semi = ms.map mvText :=
  TL.split_join tl_semi (by decide +kernel) (fun e => hne (List.map_eq_nil_iff.mp e)) fun p hp => by
    obtain ⟨m, hm, rfl⟩ := List.mem_map.mp hp
    exact no_semi (h m hm)
theorem join_split' (u : Str) : Txt.join semi (Txt.split u semi) = u := by rw [TL.join_eq]; exact StrLaws.join_split u semi
/-- what is written by moves -/
def Writes (u : Str) : Prop := u = "" ∨ ∀ p ∈ Txt.split u semi, Good p
theorem choose_ms : ∀ {ps : List Str}, (∀ p ∈ ps, Good p) → ∃ ms : List Mv, (∀ m ∈ ms, m.Ok) ∧ ms.map mvText = ps
  | [], _ => ⟨[], fun _ h => absurd h List.not_mem_nil, rfl⟩
  | p :: ps, h => by
    obtain ⟨m, hm, e⟩ := h p (List.mem_cons_self ..)
    obtain ⟨ms, h1, h2⟩ := choose_ms fun q hq => h q (List.mem_cons_of_mem _ hq)
    exact ⟨m :: ms, fun x hx => by rcases List.mem_cons.mp hx with rfl | hx; exact hm; exact h1 x hx, by rw [List.map_cons, e, h2]⟩
theorem writes_ms {u : Str} (h : Writes u) : ∃ ms : List Mv, (∀ m ∈ ms, m.Ok) ∧ routine ms = u := by
  rcases h with h | h
  · exact ⟨[], fun _ h => absurd h List.not_mem_nil, h ▸ rfl⟩
  · obtain ⟨ms, h1, h2⟩ := choose_ms h
    refine ⟨ms, h1, ?_⟩
    unfold routine
    rw [h2]
    exact join_split' u
theorem routine_writes {ms : List Mv} (h : ∀ m ∈ ms, m.Ok) : Writes (routine ms) := by
  by_cases e : ms = []
  · subst e
    exact .inl rfl
  · refine .inr fun p hp => ?_
    rw [split_routine h e] at hp
    obtain ⟨m, hm, rfl⟩ := List.mem_map.mp hp
    exact ⟨m, h m hm, rfl⟩
theorem routine_ne {ms : List Mv} (h : ∀ m ∈ ms, m.Ok) (hne : ms ≠ []) : routine ms ≠ "" := fun e => by
  have h1 := split_routine h hne
  rw [e] at h1
  have h2 : Txt.split "" semi = [("" : Str)] := by decide +kernel
  rw [h2] at h1
  match ms, hne with
  | [m], _ =>
    have h3 : mvText m = "" := (List.cons.inj h1).1.symm
    have h4 := part_text m
    rw [h3] at h4
    have h5 : Txt.partition "" blnk = (("" : Str), Str.empty, Str.empty) := by decide +kernel
    rw [h5] at h4
    have h6 : ∀ x ∈ [Str.ofString "cut", Str.ofString "turn", Str.ofString "deal", Str.ofString "under", Str.ofString "weave", Str.ofString "riffle"], (("" : Str), Str.empty, Str.empty).1 ≠ x := by decide +kernel
    have h7 := congrArg Prod.fst h4
    cases m <;> exact absurd h7 (h6 _ (by simp [tri]))
  | m :: k :: ms, _ =>
    have := congrArg List.length h1
    simp at this
/-! ### defs that may let out -/
open PyProof.Rows
structure CalN (P : Program) (w : World) (K : PySem.W.Frag) (mg : Str → Option Value) (base : Heap) (CX : CXT) (k : Nat) (x : Str) (sp : Sp) : Prop where
  ex : ∃ (f : Addr) (fd : FuncData) (ps : List Str), FnOk P w K mg base CX k f fd ps sp ∧ mg x = some (.ref f) ∧ PySem.W.keepIn K (.ref f) = true ∧ Binds K fd ps []
structure MakN (P : Program) (w : World) (K : PySem.W.Frag) (mg : Str → Option Value) (base : Heap) (CX : CXT) (k : Nat) (x : Str) (C : Addr) (sp : Sp) : Prop where
  ex : ∃ (f : Addr) (fd : FuncData) (ps : List Str), Mk K C f ∧ FnOk P w K mg base CX k f fd ps sp ∧ mg x = some (.ref C) ∧ Binds K fd ps []
section
variable {P : Program} {w : World} {K : PySem.W.Frag} {mg : Str → Option Value} {base : Heap} {CX : CXT}
theorem fnN {x qual : Str} {st : Stmt} {f : Addr} {fd : FuncData} {N ps : List Str} {k : Nat} {sp : Sp} (F : C8.Fun K x qual st f fd) (S : FnScope N ps (C8.fnScope st)) (len : ∀ vs H Q E, sp vs H Q E → vs.length = ps.length)
    (hbody : ∀ (cdv : Value) (A : Around) (outer : List Env) (s : Shared) (H : Hp) (vs : List V) (Q : VK) (E : XK), Room k (A.deeper (envOfC qual (C8.fnScope st) s.heap.objs.size f cdv)) → sp vs H Q E →
      ∃ t, PSs (cxOf CX P w K mg base N qual (C8.fnScope st) f cdv A outer s H E) (C8.fnBody st) t ∧ t { nx := fun _ H' => Q .non H', rt := Q } (start N vs) H) : FnOk P w K mg base CX (k + 1) f fd ps sp := by
  obtain ⟨oc, od, dV, kV, doc, pm, an, cdv, ct, osl, rfl, lk, hcd⟩ := F.ex
  exact fn_of lk hcd S len fun A outer s H vs Q E hr hsp => hbody cdv A outer s H vs Q E hr hsp
theorem calN {x : Str} {st : Stmt} {f : Addr} {fd : FuncData} {N ps : List Str} {k : Nat} {sp : Sp} (F : C8.Def K mg x st f fd) (b : Binds K fd ps []) (S : FnScope N ps (C8.fnScope st)) (len : ∀ vs H Q E, sp vs H Q E → vs.length = ps.length)
    (hbody : ∀ (cdv : Value) (A : Around) (outer : List Env) (s : Shared) (H : Hp) (vs : List V) (Q : VK) (E : XK), Room k (A.deeper (envOfC x (C8.fnScope st) s.heap.objs.size f cdv)) → sp vs H Q E →
      ∃ t, PSs (cxOf CX P w K mg base N x (C8.fnScope st) f cdv A outer s H E) (C8.fnBody st) t ∧ t { nx := fun _ H' => Q .non H', rt := Q } (start N vs) H) : CalN P w K mg base CX (k + 1) x sp :=
  ⟨f, fd, ps, fnN F.fn S len hbody, F.mgf, F.kp, b⟩
theorem makN {x qual : Str} {C : Addr} {st : Stmt} {f : Addr} {fd : FuncData} {N ps : List Str} {k : Nat} {sp : Sp} (M : Mk K C f) (hm : mg x = some (.ref C)) (F : C8.Fun K "__init__" qual st f fd) (b : Binds K fd ps []) (S : FnScope N ps (C8.fnScope st)) (len : ∀ vs H Q E, sp vs H Q E → vs.length = ps.length)
    (hbody : ∀ (cdv : Value) (A : Around) (outer : List Env) (s : Shared) (H : Hp) (vs : List V) (Q : VK) (E : XK), Room k (A.deeper (envOfC qual (C8.fnScope st) s.heap.objs.size f cdv)) → sp vs H Q E →
      ∃ t, PSs (cxOf CX P w K mg base N qual (C8.fnScope st) f cdv A outer s H E) (C8.fnBody st) t ∧ t { nx := fun _ H' => Q .non H', rt := Q } (start N vs) H) : MakN P w K mg base CX (k + 1) x C sp :=
  ⟨f, fd, ps, M, fnN F S len hbody, hm, b⟩
end
section
variable {X : Cx} {CX : CXT} {k j : Nat} {C : Addr} {x : Str} {sp : Sp} {p pos : Pos} {e : Expr} {es : List Expr} {t : TA} {E : XK}
theorem pe_cN (c : CalN X.prog X.w X.K X.mg X.base CX k x sp) (hr : Room j X.A) (hk : k ≤ j) (hg : Gl X x) (hx : Passes CX X E) (ha : PA X (e :: es) t)
    (hdb : (x == ("__debug__" : Str)) = false := by decide) (he : starEach (e :: es) X.env = (false, eval e X.env) :: starEach es X.env := by rfl) (hpl : (backTo pos (starEach es X.env)).any (·.1) = false := by rfl) :
    PE X (.Call (.Name x p) (e :: es) [] pos) (tCall sp [] E t) := by
  obtain ⟨f, fd, ps, F, hm, kp, b⟩ := c.ex
  exact pe_call F (hr.mono hk) hg hm kp b .nil hx ha hdb he hpl
theorem pe_cS {W : L2.St → XK} (c : CalN X.prog X.w X.K X.mg X.base CX k x sp) (hr : Room j X.A) (hk : k ≤ j) (hg : Gl X x) (hx : ∀ σ, PassesAt CX X σ (W σ)) (ha : PA X (e :: es) t)
    (hdb : (x == ("__debug__" : Str)) = false := by decide) (he : starEach (e :: es) X.env = (false, eval e X.env) :: starEach es X.env := by rfl) (hpl : (backTo pos (starEach es X.env)).any (·.1) = false := by rfl) :
    PE X (.Call (.Name x p) (e :: es) [] pos) (tCallS sp W t) := by
  obtain ⟨f, fd, ps, F, hm, kp, b⟩ := c.ex
  exact pe_callS F (hr.mono hk) hg hm kp b hx ha hdb he hpl
theorem pe_mkN (c : MakN X.prog X.w X.K X.mg X.base CX k x C sp) (hr : Room j X.A) (hk : k + 1 ≤ j) (hg : Gl X x) (hx : Passes CX X E) (ha : PA X (e :: es) t)
    (hdb : (x == ("__debug__" : Str)) = false := by decide) (he : starEach (e :: es) X.env = (false, eval e X.env) :: starEach es X.env := by rfl) (hpl : (backTo pos (starEach es X.env)).any (·.1) = false := by rfl) :
    PE X (.Call (.Name x p) (e :: es) [] pos) (tMake C sp [] E t) := by
  obtain ⟨f, fd, ps, M, F, hm, b⟩ := c.ex
  exact pe_make M F (hr.mono hk) hg hm b .nil hx ha hdb he hpl
theorem passN0 : Passes (L2N.CX X.prog X.w) X C8.E0 := fun _ _ _ _ _ _ _ h => by
  obtain ⟨_, _, _, _, _, _, _, _, _, _, _, _, z⟩ := h
  exact z.elim
end
/-- raise C(..) -/
def tRaise (E : XK) (C : Addr) : TS := fun _ _ H => E (.ref C) none H
/-! ### promises -/
def sp_p_Cut_initX (K : PySem.W.Frag) (C : Cl) : Sp := fun vs H Q E => ∃ (p dx : Addr) (n : Nat), vs = [.ref p, vN n] ∧ H p = some (.ins C.cCut dx []) ∧ ((n ≤ 60 ∧ ∀ H', But p H H' → H' p = some (.ins C.cCut dx [("many", vN n)]) → Q .non H') ∨ (60 < n ∧ E (.ref C.cBadMove) none H))
def sp_p_Deal_initX (K : PySem.W.Frag) (C : Cl) : Sp := fun vs H Q E => ∃ (p dx : Addr) (n : Nat), vs = [.ref p, vN n] ∧ H p = some (.ins C.cDeal dx []) ∧ ((1 ≤ n ∧ n ≤ 60 ∧ ∀ H', But p H H' → H' p = some (.ins C.cDeal dx [("piles", vN n)]) → Q .non H') ∨ (¬ (1 ≤ n ∧ n ≤ 60) ∧ E (.ref C.cBadMove) none H))
def sp_p_Weave_initX (K : PySem.W.Frag) (C : Cl) : Sp := fun vs H Q E => ∃ (p dx : Addr) (n : Nat), vs = [.ref p, vN n] ∧ H p = some (.ins C.cWeave dx []) ∧ ((n ≤ 1 ∧ ∀ H', But p H H' → H' p = some (.ins C.cWeave dx [("first", vN n)]) → Q .non H') ∨ (1 < n ∧ E (.ref C.cBadMove) none H))
def sp_p_Riffle_initX (K : PySem.W.Frag) (C : Cl) : Sp := fun vs H Q E => ∃ (p dx : Addr) (r : Str), vs = [.ref p, .str r] ∧ r.length ≤ 100000 ∧ H p = some (.ins C.cRiffle dx []) ∧ ((WordOk r ∧ ∀ H', But p H H' → H' p = some (.ins C.cRiffle dx [("word", .str r)]) → Q .non H') ∨ (¬ WordOk r ∧ E (.ref C.cBadMove) none H))
def sp_p_number_in (K : PySem.W.Frag) (C : Cl) : Sp := fun vs H Q E => ∃ r : Str, vs = [.str r] ∧ r.length ≤ 100000 ∧ ((∃ n : Nat, DigOk r ∧ PySem.intText? r = some (n : Int) ∧ Q (vN n) H) ∨ (¬ DigOk r ∧ E (.ref C.cBadText) none H))
def sp_p_move_in (K : PySem.W.Frag) (C : Cl) : Sp := fun vs H Q E => ∃ u : Str, vs = [.str u] ∧ u.length ≤ 100000 ∧ ((∃ m : Mv, m.Ok ∧ mvText m = u ∧ ∀ p H', H p = none → Same H H' → MvAt C H' p m → Q (.ref p) H') ∨ (¬ Good u ∧ ∀ H', Same H H' → E (.ref C.cBadText) none H' ∧ E (.ref C.cBadMove) none H'))
def sp_p_read (K : PySem.W.Frag) (C : Cl) : Sp := fun vs H Q _ => ∃ (u : Str) (ms : List Mv), vs = [.str u] ∧ u.length ≤ 100000 ∧ (∀ m ∈ ms, m.Ok) ∧ routine ms = u ∧
  ∀ q H' (zs : List (Addr × Mv)), H q = none → Same H H' → H' q = some (.lst (zs.map vZ)) → zs.map (·.2) = ms → (∀ z ∈ zs, z.1 ≠ q ∧ MvAt C H' z.1 z.2) → Q (.ref q) H'
def Odd (K : PySem.W.Frag) (H : Hp) (v : V) : Prop := (∃ t, TyX K H v (.type t) ∧ kitB t "str" = some false) ∨ (∃ u : Str, v = .str u ∧ u.length ≤ 100000 ∧ ¬ Writes u)
def sp_p_readB (K : PySem.W.Frag) (C : Cl) : Sp := fun vs H Q E => ∃ v : V, vs = [v] ∧ Odd K H v ∧ ∀ H', Same H H' → E (.ref C.cBadText) none H'
def sp_l_text (K : PySem.W.Frag) (C : Cl) : Sp := fun vs H Q _ => ∃ (t : Addr) (m : Mv), vs = [.ref t] ∧ Told K H t m ∧ m.Ok ∧ RetV (.str (mvText m)) H Q
def sp_l_number (K : PySem.W.Frag) (C : Cl) : Sp := fun vs H Q _ => ∃ (r : Str) (lo hi : Nat), vs = [.str r, vN lo, vN hi] ∧ r.length ≤ 100000 ∧ ((∃ n : Nat, DigOk r ∧ PySem.intText? r = some (n : Int) ∧ RetV (.bl (decide (lo ≤ n ∧ n ≤ hi))) H Q) ∨ (¬ DigOk r ∧ RetV (.bl false) H Q))
def sp_l_writes (K : PySem.W.Frag) (C : Cl) : Sp := fun vs H Q _ => ∃ u : Str, vs = [.str u] ∧ u.length ≤ 100000 ∧ ((Writes u ∧ RetV (.bl true) H Q) ∨ (¬ Writes u ∧ RetV (.bl false) H Q))
def sp_l_refused (K : PySem.W.Frag) (C : Cl) : Sp := fun vs H Q _ => ∃ v : V, vs = [v] ∧ Odd K H v ∧ RetV (.bl true) H Q
def sp_l_few (K : PySem.W.Frag) (C : Cl) : Sp := fun vs H Q _ => vs = [] ∧ ∀ us : List Str, us.length ≤ 100 → (∀ u ∈ us, u.length ≤ 1000) → RetL (us.map V.str) H Q
end Rf

set_option Elab.async false
set_option linter.all false
set_option maxRecDepth 100000
set_option maxHeartbeats 4000000
/-! Rf, part 15: exceptions' classes, str(x) of a text, x.partition(y), calls without arguments. -/
namespace Rf
open PySem PySem.Spec L2 Rm
def rPartS : V → List V → Hp → VK → Prop := fun x xs H Q => ∃ a b, x = .str a ∧ xs = [.str b] ∧ (b.length == 0) = false ∧ a.length ≤ sizeLine ∧ kNew (.tup [.str (Txt.partition a b).1, .str (Txt.partition a b).2.1, .str (Txt.partition a b).2.2]) Q H
theorem mt_partQ {X : Cx} : MtR X "str.partition" rPartS := mt_partition
theorem c_partS {H : Hp} {Q : VK} {u : Str} (hz : u.length ≤ 1000000) (k : ∀ p H', H p = none → Same H H' → H' p = some (.tup [.str (Txt.partition u blnk).1, .str (Txt.partition u blnk).2.1, .str (Txt.partition u blnk).2.2]) → Q (.ref p) H') : rPartS (.str u) [.str " "] H Q :=
  ⟨u, " ", rfl, rfl, by decide +kernel, sz hz, c_new k⟩
def rStrV : List V → Hp → VK → Prop := fun xs H Q => rStrI xs H Q ∨ ∃ a, xs = [.str a] ∧ Q (.str a) H
theorem call_strV {X : Cx} : CallR X (.type "str") rStrV := fun pins s σ H xs us Q I r h => h.elim (call_strI pins s σ H xs us Q I r) (SkE.call_str_str pins s σ H xs us Q I r)
theorem pe_c0 {X : Cx} {k j : Nat} {x : Str} {sp : Sp} {p pos : Pos} (c : C8.Cal X.prog X.w X.K X.mg X.base k x sp []) (hr : Room j X.A) (hk : k ≤ j) (hg : Gl X x) (hdb : (x == ("__debug__" : Str)) = false := by decide) : PE X (.Call (.Name x p) [] [] pos) (tCall sp [] C8.E0 tNil) := by
  obtain ⟨f, fd, ps, ds, F, hm, kp, b, d⟩ := c.ex
  exact pe_call0 F (hr.mono hk) hg hm kp b d C8.pass0 hdb
abbrev veM : List Value := [.type "ValueError", .type "Exception", .type "BaseException", .type "object"]
structure ExF (K : PySem.W.Frag) (mg : Str → Option Value) (x : Str) (c : Addr) : Prop where
  g : mg x = some (.ref c)
  e : PySem.W.excIn K c veM "ValueError.__new__" = true
  k : PySem.W.keepIn K (.ref c) = true
  b : PySem.W.subIn K (.ref c) (.type "BaseException") = some true
  t : PySem.W.typeIn K (.ref c) = some (.type "type")
structure XF (K : PySem.W.Frag) (mg : Str → Option Value) (C : Cl) : Prop where
  bt : ExF K mg "BadText" C.cBadText
  bm : ExF K mg "BadMove" C.cBadMove
  gp : mg "PackError" = some (.ref C.cPackError)
  mTM : PySem.W.exmOne K (.ref C.cBadText) (.ref C.cBadMove) = some false
  mMM : PySem.W.exmOne K (.ref C.cBadMove) (.ref C.cBadMove) = some true
  mTP : PySem.W.exmOne K (.ref C.cBadText) (.ref C.cPackError) = some true
  xc : ExcC K C.cBadText
  kM : PySem.W.kitOne K (.ref C.cBadText) (.ref C.cBadMove) = some false
  kN : PySem.W.kitOne K (.ref C.cBadText) (.ref C.cBadNumber) = some false
  kO : PySem.W.kitOne K (.ref C.cBadText) (.ref C.cBadOrder) = some false
  kT : PySem.W.kitOne K (.ref C.cBadText) (.ref C.cBadText) = some true
  kV : PySem.W.kitOne K (.ref C.cBadText) (.type "ValueError") = some true
theorem kit_mt {K : PySem.W.Frag} {c : Addr} {n : String} {b : Bool} (h : PySem.W.subIn K (.ref c) (.type n) = some b) (hc : PySem.W.kitCls K (.ref c) (.type n) = PySem.W.subIn K (.ref c) (.type n)) : PySem.W.kitOne K (.ref c) (.type n) = some b := by
  unfold PySem.W.kitOne
  rw [if_neg (by simp), hc]
  exact h
theorem kit_ve {K : PySem.W.Frag} {c : Addr} {b : Bool} (h : PySem.W.subIn K (.ref c) (.type "ValueError") = some b) : PySem.W.kitOne K (.ref c) (.type "ValueError") = some b := kit_mt h (by
  show (if PySem.W.kitMeta "ValueError" = true then PySem.W.subIn K (.ref c) (.type "ValueError") else none) = _
  rw [if_pos (by decide +kernel)])
/-- isinstance(error, c) in an except suite, whatever was caught -/
def rIsV (K : PySem.W.Frag) (a : Addr) (cls : Value) (d : Option Addr) : List V → Hp → VK → Prop := fun xs H Q => ∃ D : Addr, cls = .ref D ∧ d = none ∧ ExcC K D ∧ rIsE K D a xs H Q
theorem call_isV {X : Cx} {a : Addr} {oe : Obj} {cls : Value} {d : Option Addr} {pn : List (Addr × Obj)} (hz : Zc cls d oe) (hf : ∃ vs, oe.data = .fields vs) : CallR (X.suite a ((a, oe) :: pn)) (.builtin "isinstance") (rIsV X.K a cls d) := by
  intro pins s σ H xs us Q I r h
  obtain ⟨D, rfl, rfl, hc, h⟩ := h
  exact call_isE hc hz hf pins s σ H xs us Q I r h
theorem c_isV {K : PySem.W.Frag} {a D : Addr} {c : V} {cv : Value} {b : Bool} {H : Hp} {Q : VK} (hx : ExcC K D) (hc : ∀ u, RelV c u → u = cv) (h : PySem.W.kitOne K (.ref D) cv = some b) (k : Q (.bl b) H) : rIsV K a (.ref D) none [.ref a, c] H Q :=
  ⟨D, rfl, rfl, hx, c, cv, b, rfl, hc, h, k⟩
end Rf

set_option Elab.async false
set_option linter.all false
set_option maxRecDepth 100000
set_option maxHeartbeats 4000000
namespace Rf
open PySem PySem.Spec L2 Rm
local macro_rules | `(tactic| walk_at "ne") => `(tactic| first | assumption | (apply Ne.symm; assumption) | exact ne_new (by walk_at "hp") (by assumption) | exact ne_old (by walk_at "hp") (by assumption))
local macro_rules | `(tactic| walk_at "hp") => `(tactic| first | assumption | exact get_same (by assumption) (by walk_at "hp") | exact get_but (by assumption) (by walk_at "ne") (by walk_at "hp"))
local macro_rules | `(tactic| walk_at "sl") => `(tactic| first | assumption | exact sl_of (by assumption) | exact sl_same (by assumption) (by walk_at "sl") | exact sl_but (by assumption) (by walk_at "ne") (by walk_at "sl"))
local macro_rules | `(tactic| walk_at "st") => `(tactic| first | assumption | exact st_of (by assumption) | exact st_same (by assumption) (by walk_at "st") | exact st_but (by assumption) (by walk_at "ne") (by walk_at "st"))
local macro_rules | `(tactic| walk_at "sm") => `(tactic| first | assumption | exact Same.refl _ | exact same_tr (by assumption) (by walk_at "sm") | exact same_bt (by assumption) (by walk_at "fr") (by walk_at "sm"))
local macro_rules | `(tactic| walk_at "fr") => `(tactic| first | assumption | exact none_of_same (by assumption) (by walk_at "sm"))
local macro_rules | `(tactic| walk_at "dec") => `(tactic| first | rfl | assumption | omega | (simp only [decide_eq_true_eq, decide_eq_false_iff_not, Bool.not_eq_true', Bool.not_eq_false', Bool.not_true, Bool.not_false, Bool.and_eq_true, Bool.or_eq_true, Bool.and_eq_false_iff, Bool.or_eq_false_iff, Bool.not_eq_true, Bool.not_eq_false] <;> first | omega | assumption | rfl | (constructor <;> omega)))
local macro_rules | `(tactic| walk_at "len") => `(tactic| first | decide | omega | (simp only [List.length_append, List.length_cons, List.length_nil, List.length_map, List.length_range, List.length_reverse, List.length_set, List.length_take, List.length_drop] <;> omega) | (simp <;> omega))
local macro_rules | `(tactic| walk_at "s") => `(tactic| first
  | (with_reducible refine c_seq ?_)
  | (with_reducible refine c_asg ?_)
  | (with_reducible refine c_op ?_)
  | ((with_reducible refine' c_var ?hv ?_); (case hv => exact rfl))
  | (with_reducible refine c_c ?_)
  | (with_reducible refine c_cons ?_)
  | (with_reducible refine c_nil ?_)
  | (with_reducible refine c_and1 ?_)
  | (with_reducible refine c_shr1 ?_)
  | (with_reducible refine c_i0 ?_)
  | ((with_reducible refine' c_mul ?hv ?_); (case hv => omega))
  | ((with_reducible refine' c_div ?hv ?_); (case hv => omega))
  | ((with_reducible refine' c_mod ?hv ?_); (case hv => omega))
  | (with_reducible refine c_un ?_)
  | (with_reducible refine c_iU ?_)
  | (with_reducible refine c_call ?_)
  | (with_reducible refine c_tTest ?_)
  | (with_reducible refine c_tB ?_)
  | (with_reducible refine c_kB ?_)
  | (with_reducible refine c_ifS ?_)
  | (with_reducible refine c_gn0 ?_)
  | (with_reducible refine c_gn1 ?_)
  | (with_reducible refine c_gn2 ?_)
  | (with_reducible refine c_gn3 ?_)
  | (with_reducible refine c_gn4 ?_)
  | (with_reducible refine c_gn5 ?_)
  | (with_reducible refine c_gn6 ?_)
  | (with_reducible refine c_gn7 ?_)
  | (with_reducible refine c_gn8 ?_)
  | (with_reducible refine c_gnS ?_)
  | (with_reducible refine c_eqI ?_)
  | (with_reducible refine c_neI ?_)
  | (with_reducible refine c_eqS ?_)
  | (with_reducible refine c_neS ?_)
  | (with_reducible refine c_eqB ?_)
  | (with_reducible refine c_neB ?_)
  | (with_reducible refine c_and ?_)
  | (with_reducible refine c_or ?_)
  | (with_reducible refine c_not ?_)
  | (with_reducible refine c_andV ?_)
  | (with_reducible refine c_orV ?_)
  | (with_reducible refine c_notV ?_)
  | (with_reducible refine c_ifE ?_)
  | (with_reducible refine c_tYes ?_)
  | (with_reducible refine c_chain ?_)
  | ((with_reducible refine' c_chLe ?hv ?_ ?hm); (case hv => exact ⟨rfl, rfl⟩); (case hm => exact fun R R' hh q => hh _ _ q))
  | ((with_reducible refine' c_chLe ?hv ?_ ?hm); (case hv => exact ⟨_, rfl, rfl, rfl⟩); (case hm => exact fun R R' hh ⟨v, e, q⟩ => ⟨v, e, hh _ _ q⟩))
  | (with_reducible refine c_tup ?_)
  | (with_reducible refine c_lst ?_)
  | ((with_reducible refine' c_kTup ?hv ?_); (case hv => walk_at "len"); intro _ _ _ _ _)
  | ((with_reducible refine' c_kLst ?hv ?_); (case hv => walk_at "len"); intro _ _ _ _ _)
  | ((with_reducible refine' c_ixL ?hv ?ha ?_); (case hv => walk_at "sl"); (case ha => walk_at "at"))
  | ((with_reducible refine' c_ixT ?hv ?ha ?_); (case hv => walk_at "st"); (case ha => walk_at "at"))
  | ((with_reducible refine' c_cat ?hv ?ha ?hz ?_); (case hv => walk_at "hp"); (case ha => walk_at "hp"); (case hz => walk_at "len"); intro _ _ _ _ _)
  | ((with_reducible refine' c_addS ?hv ?_); (case hv => walk_at "len"))
  | (with_reducible refine c_sl ?_)
  | (with_reducible refine c_noP ?_)
  | (with_reducible refine c_part ?_)
  | (with_reducible refine c_kPart ?_)
  | ((with_reducible refine' c_slL ?hv ?_); (case hv => walk_at "sl"); intro _ _ _ _ _)
  | ((with_reducible refine' c_slX ?hv ?_); (case hv => walk_at "len"))
  | (with_reducible refine c_rev ?_)
  | ((with_reducible refine' c_kRev ?hv ?_); (case hv => walk_at "sl"); intro _ _ _ _ _)
  | (with_reducible refine c_CB ?_)
  | ((with_reducible refine' c_lenM ?hv ?_); (case hv => walk_at "sl"))
  | ((with_reducible refine' c_lenL ?hv ?_); (case hv => walk_at "sl"))
  | ((with_reducible refine' c_lenS ?hv ?_); (case hv => walk_at "len"))
  | ((with_reducible refine' c_listOf ?hv ?_); (case hv => walk_at "sl"); intro _ _ _ _ _)
  | (with_reducible refine c_min2 ?_)
  | (with_reducible refine c_listRg ?_)
  | (with_reducible refine c_rg1 ?_)
  | (with_reducible refine c_kRg1 ?_)
  | (with_reducible refine c_rg2 ?_)
  | (with_reducible refine c_kRg2 ?_)
  | ((with_reducible refine' c_kRgN ?hv ?_); (case hv => omega); intro _ _ _ _ _)
  | ((with_reducible refine' c_kRgN2 ?hv ?ha ?_); (case hv => omega); (case ha => omega); intro _ _ _ _ _)
  | ((with_reducible refine' c_kRg ?hv ?ha ?_); (case hv => omega); (case ha => omega); intro _ _ _ _ _)
  | (with_reducible refine c_lenSet ?_)
  | (with_reducible refine c_meth ?_)
  | (with_reducible refine c_methA ?_)
  | (with_reducible refine c_make ?_)
  | ((with_reducible refine c_makeO ?_); intro _ _ _ _ _ _)
  | (with_reducible refine c_fld ?_)
  | (with_reducible refine c_bm ?_)
  | (with_reducible refine c_bm0 ?_)
  | ((with_reducible refine' c_kBMl ?hv ?_); (case hv => walk_at "sl"))
  | ((with_reducible refine' c_kBM0l ?hv ?_); (case hv => walk_at "sl"))
  | (with_reducible refine c_kBMs ?_)
  | (with_reducible refine c_kBM0s ?_)
  | ((with_reducible refine' c_append ?hv ?hz ?_); (case hv => walk_at "hp"); (case hz => walk_at "len"); intro _ _ _)
  | ((with_reducible refine' c_extend ?hv ?ha ?hz ?_); (case hv => walk_at "hp"); (case ha => walk_at "hp"); (case hz => walk_at "len"); intro _ _ _)
  | ((with_reducible refine' c_reverse ?hv ?_); (case hv => walk_at "hp"); intro _ _ _)
  | ((with_reducible refine' c_clear ?hv ?_); (case hv => walk_at "hp"); intro _ _ _)
  | ((with_reducible refine' c_gtup ?hv ?ha ?_); (case hv => walk_at "st"); (case ha => exact rfl))
  | (with_reducible refine c_gnil ?_)
  | (with_reducible refine c_gcons ?_)
  | (with_reducible refine c_gsub ?_)
  | (with_reducible refine c_next ?_)
  | (with_reducible refine c_par ?_)
  | (with_reducible refine c_kPar ?_)
  | ((with_reducible refine' c_aug ?hv ?_); (case hv => exact rfl))
  | (with_reducible refine c_ipI ?_)
  | (with_reducible refine c_drop ?_)
  | (with_reducible refine c_ret ?_)
  | (with_reducible refine c_retN ?_)
  | (with_reducible refine c_sfld ?_)
  | (with_reducible refine c_forL ?_)
  | (with_reducible refine c_for1 ?_)
  | (with_reducible refine c_for2 ?_)
  | (with_reducible refine c_forS ?_)
  | (with_reducible refine c_forRev ?_)
  | (with_reducible refine c_lcL ?_)
  | (with_reducible refine c_lc1 ?_)
  | (refine if_f (by walk_at "dec") ?_)
  | (refine if_t (by walk_at "dec") ?_)
  | walk_at "own")
local macro_rules | `(tactic| walk_at "go") => `(tactic| repeat walk_at "s")

theorem ty_sl {K : PySem.W.Frag} {H : Hp} {a : Addr} {xs : List V} (h : SqL K H a xs) : TyX K H (.ref a) (.type "list") := by
  rcases h with (h | ⟨o, h⟩) | ⟨o, its, n, h1, h2, _⟩
  · exact .base (.lst h)
  · exact .base (.frz h)
  · exact .kList h1 h2
theorem c_isiL {K : PySem.W.Frag} {H : Hp} {a : Addr} {xs : List V} {Q : VK} {n : String} {q : Bool} (h : SqL K H a xs) (h3 : kitB "list" n = some q) (k : Q (.bl q) H) : rIsi K [.ref a, .ty n] H Q := c_isiT (ty_sl h) h3 k
theorem c_isiI {K : PySem.W.Frag} {H : Hp} {i : Int} {Q : VK} {n : String} {q : Bool} (h3 : kitB "int" n = some q) (k : Q (.bl q) H) : rIsi K [.int i, .ty n] H Q := c_isiT (.base (.int _)) h3 k
theorem c_isiS {K : PySem.W.Frag} {H : Hp} {w : Str} {Q : VK} {n : String} {q : Bool} (h3 : kitB "str" n = some q) (k : Q (.bl q) H) : rIsi K [.str w, .ty n] H Q := c_isiT (.base (.str _)) h3 k
theorem c_isiB {K : PySem.W.Frag} {H : Hp} {b : Bool} {Q : VK} {n : String} {q : Bool} (h3 : kitB "bool" n = some q) (k : Q (.bl q) H) : rIsi K [.bl b, .ty n] H Q := c_isiT (.base (.bl _)) h3 k
theorem kit_int_int : kitB "int" "int" = some true := by decide +kernel
theorem kit_int_bool : kitB "int" "bool" = some false := by decide +kernel
theorem kit_int_str : kitB "int" "str" = some false := by decide +kernel
theorem kit_int_list : kitB "int" "list" = some false := by decide +kernel
theorem kit_list_list : kitB "list" "list" = some true := by decide +kernel
theorem kit_list_int : kitB "list" "int" = some false := by decide +kernel
theorem kit_list_bool : kitB "list" "bool" = some false := by decide +kernel
theorem kit_str_str : kitB "str" "str" = some true := by decide +kernel
theorem kit_str_int : kitB "str" "int" = some false := by decide +kernel
theorem kit_str_list : kitB "str" "list" = some false := by decide +kernel
theorem kit_bool_bool : kitB "bool" "bool" = some true := by decide +kernel
theorem kit_bool_int : kitB "bool" "int" = some true := by decide +kernel
theorem kit_bool_list : kitB "bool" "list" = some false := by decide +kernel
local macro_rules | `(tactic| walk_at "kit") => `(tactic| first | exact kit_int_int | exact kit_int_bool | exact kit_int_str | exact kit_int_list | exact kit_list_list | exact kit_list_int | exact kit_list_bool | exact kit_str_str | exact kit_str_int | exact kit_str_list | exact kit_bool_bool | exact kit_bool_int | exact kit_bool_list)
local macro_rules | `(tactic| walk_at "own") => `(tactic| first
  | ((with_reducible refine' c_isiI ?h3 ?_); (case h3 => walk_at "kit"))
  | ((with_reducible refine' c_isiL ?h1 ?h3 ?_); (case h1 => walk_at "sl"); (case h3 => walk_at "kit"))
  | ((with_reducible refine' c_isiS ?h3 ?_); (case h3 => walk_at "kit"))
  | ((with_reducible refine' c_isiB ?h3 ?_); (case h3 => walk_at "kit")))
variable {K : PySem.W.Frag} {C : Cl} {vs : List V} {H : Hp} {Q : VK} {E : XK}
theorem at_map {α : Type} {f : α → V} {ns : List α} {x : α} {n : Int} {i : Nat} (h : ns[i]? = some x) (e : n = (i : Int)) : atI (ns.map f) n = some (f x) := by
  subst e
  refine atI_nat ?_
  rw [List.getElem?_map, h]
  rfl
theorem tn_nat (k : Nat) : ((k : Int)).toNat = k := Int.toNat_natCast k
theorem tn_add (a b : Nat) : ((a : Int) + (b : Int)).toNat = a + b := by omega
theorem tn_sub (a b : Nat) (h : b ≤ a) : ((a : Int) - (b : Int)).toNat = a - b := by omega
theorem tn_sub1 (a : Nat) (h : 1 ≤ a) : ((a : Int) - 1).toNat = a - 1 := by omega
theorem at_DN {os : List Nat} {n : Int} {i : Nat} (e : n.toNat = i) (h0 : 0 ≤ n) (h : i < os.length) : atI (os.map vN) n = some (vN (os.getD i 0)) := at_map (i := i) (get?_getD h) (by omega)
theorem at_DI {ns : List Int} {n : Int} {i : Nat} (e : n.toNat = i) (h0 : 0 ≤ n) (h : i < ns.length) : atI (ns.map V.int) n = some (.int (ns.getD i 0)) := at_map (i := i) (by
  rw [List.getElem?_eq_getElem h, List.getD_eq_getElem?_getD, List.getElem?_eq_getElem h]
  rfl) (by omega)
local macro_rules | `(tactic| walk_at "tn") => `(tactic| first | exact tn_nat _ | exact tn_add _ _ | exact tn_sub1 _ (by omega) | exact tn_sub _ _ (by omega) | exact rfl)
local macro_rules | `(tactic| walk_at "at") => `(tactic| first | exact at_DN (by walk_at "tn") (by omega) (by omega) | exact at_DI (by walk_at "tn") (by omega) (by omega) | rfl | assumption | exact at_map (by assumption) (by first | rfl | omega))

/-! within -/
def t_p_within (K : PySem.W.Frag) (C : Cl) : TS := (tRet (tAndV (tCB (rIsi K) (tCons (tVar 0) (tCons (tC (.ty "int")) tNil))) (tAndV (tNotV (tCB (rIsi K) (tCons (tVar 0) (tCons (tC (.ty "bool")) tNil)))) (tChain oLe oLe (tVar 1) (tVar 0) (tVar 2)))))
abbrev n_p_within : List Str := ["number", "low", "high"]
theorem rd_p_within (h : sp_p_within K C vs H Q E) : t_p_within K C { nx := fun _ H' => Q .non H', rt := Q } (start n_p_within vs) H := by
  obtain ⟨n, lo, hi, rfl, k⟩ := h
  show t_p_within K C _ [some (.int n), some (.int lo), some (.int hi)] H
  unfold t_p_within
  walk_at "go"
  exact k

theorem c_within {n lo hi : Int} (k : Q (.bl (decide (lo ≤ n ∧ n ≤ hi))) H) : sp_p_within K C [.int n, .int lo, .int hi] H Q E := ⟨n, lo, hi, rfl, k⟩
local macro_rules | `(tactic| walk_at "own") => `(tactic| (with_reducible refine c_within ?_))
/-! cell_at, draw -/
def t_l_cell_at (K : PySem.W.Frag) (C : Cl) : TS := (tSeq (tIfS (tTest (tOp oLt (tVar 1) (tCB (rLenQ K) (tCons (tVar 0) tNil)))) (tRet (tOp (rIxL K) (tVar 0) (tVar 1))) tNext) (tRet (tC (.int 0))))
abbrev n_l_cell_at : List Str := ["_law_script", "_law_k"]
def t_l_draw (K : PySem.W.Frag) (C : Cl) : TS := (tSeq (tAsg (tTup (tCons (tC (.int 1000003)) (tCons (tC (.int 1000033)) (tCons (tC (.int 1000037)) (tCons (tC (.int 1000039)) (tCons (tC (.int 1000081)) (tCons (tC (.int 1000099)) (tCons (tC (.int 1000117)) (tCons (tC (.int 1000121)) (tCons (tC (.int 1000133)) (tCons (tC (.int 1000151)) (tCons (tC (.int 1000159)) (tCons (tC (.int 1000171)) (tCons (tC (.int 1000183)) (tCons (tC (.int 1000187)) (tCons (tC (.int 1000193)) (tCons (tC (.int 1000199)) tNil))))))))))))))))) (gName 3)) (tRet (tOp oMod (tOp oMod (tOp oAdd (tOp oMul (tVar 0) (tC (.int 48271))) (tOp oMul (tVar 1) (tC (.int 69621)))) (tOp (rIxT K) (tVar 3) (tOp oMod (tVar 1) (tC (.int 16))))) (tVar 2))))
abbrev n_l_draw : List Str := ["_law_cell", "_law_k", "_law_many_here", "_law_primes"]
theorem rd_l_cell_at (h : sp_l_cell_at K C vs H Q E) : t_l_cell_at K C { nx := fun _ H' => Q .non H', rt := Q } (start n_l_cell_at vs) H := by
  obtain ⟨a, ns, k, rfl, hs, h0, kk⟩ := h
  show t_l_cell_at K C _ [some (.ref a), some (.int k)] H
  unfold t_l_cell_at
  walk_at "go"
  refine if_d (fun h => ?_) (fun h => ?_)
  · have hi : ns[k.toNat]? = some (ns.getD k.toNat 0) := by
      rw [List.getElem?_eq_getElem (by omega), List.getD_eq_getElem?_getD, List.getElem?_eq_getElem (by omega)]
      rfl
    walk_at "go"
    exact kk
  · walk_at "go"
    rw [List.getD_eq_getElem?_getD, List.getElem?_eq_none (by omega)] at kk
    exact kk
theorem primes_pos (n : Nat) : 0 < primes.getD n 1 := by
  by_cases h : n < 16
  · have : ∀ i : Fin 16, 0 < primes.getD i.val 1 := by decide
    exact this ⟨n, h⟩
  · rw [List.getD_eq_getElem?_getD, List.getElem?_eq_none (by show 16 ≤ n; omega)]
    decide
theorem rd_l_draw (h : sp_l_draw K C vs H Q E) : t_l_draw K C { nx := fun _ H' => Q .non H', rt := Q } (start n_l_draw vs) H := by
  obtain ⟨c, k, m, rfl, h0, h1, h2, kk⟩ := h
  show t_l_draw K C _ [some (.int c), some (.int k), some (.int m), none] H
  unfold t_l_draw
  walk_at "go"
  have hk : (k % 16).toNat < 16 := by omega
  have hp : primes[(k % 16).toNat]? = some (primes.getD (k % 16).toNat 1) := by
    rw [List.getElem?_eq_getElem hk, List.getD_eq_getElem?_getD, List.getElem?_eq_getElem hk]
    rfl
  refine c_ixT (v := .int (primes.getD (k % 16).toNat 1)) (by walk_at "st") (at_map (f := V.int) hp (by omega)) ?_
  have pp := primes_pos (k % 16).toNat
  walk_at "go"
  have e : V.int ((c * 48271 + k * 69621) % primes.getD (k % 16).toNat 1 % m) = vN (drawF c k m) := by
    have h1 := Int.emod_nonneg ((c * 48271 + k * 69621) % primes.getD (k % 16).toNat 1) (show m ≠ 0 by omega)
    show V.int _ = V.int _
    unfold drawF
    rw [Int.toNat_of_nonneg h1]
  rw [e]
  exact kk _ (by walk_at "sm")
/-! check_order -/
def t_p_check_order_b1 (K : PySem.W.Frag) (C : Cl) : TS := (tIfS (tNot (tB (tCall (sp_p_within K C) [] C8.E0 (tCons (tVar 1) (tCons (tC (.int 0)) (tCons (tOp oSub (tCB (rLenQ K) (tCons (tVar 0) tNil)) (tC (.int 1))) tNil)))))) tNever tNext)
def t_p_check_order (K : PySem.W.Frag) (C : Cl) : TS := (tSeq (tIfS (tOr (tNot (tB (tCB (rIsi K) (tCons (tVar 0) (tCons (tC (.ty "list")) tNil))))) (tNot (tTest (tChain oLe oLe (tC (.int 1)) (tCB (rLenQ K) (tCons (tVar 0) tNil)) (tC (.int 60)))))) tNever tNext) (tSeq (tFor (iList K (tVar 0)) (gName 1) (t_p_check_order_b1 K C)) (tIfS (tTest (tOp oLt (RZ.tLenSetI K (tVar 0)) (tCB (rLenQ K) (tCons (tVar 0) tNil)))) tNever tNext)))
abbrev n_p_check_order : List Str := ["order", "card"]
theorem rd_p_check_order (h : sp_p_check_order K C vs H Q E) : t_p_check_order K C { nx := fun _ H' => Q .non H', rt := Q } (start n_p_check_order vs) H := by
  obtain ⟨a, os, rfl, hs, ho, kk⟩ := h
  obtain ⟨o1, o2, o5, o3, o4⟩ := ho
  show t_p_check_order K C _ [some (.ref a), none] H
  unfold t_p_check_order
  walk_at "go"
  refine l_forM hs (fun pre σ' H' => ∃ c, σ' = [some (.ref a), c] ∧ H' = H) ⟨_, rfl, rfl⟩ (fun _ _ _ _ _ ⟨_, _, e⟩ => e ▸ hs) ?_ ?_
  · rintro pre x post _ _ e ⟨c, rfl, rfl⟩
    have hx := o4 x (by rw [e]; simp)
    unfold t_p_check_order_b1
    walk_at "go"
    exact ⟨_, rfl, rfl⟩
  · rintro _ _ ⟨c, rfl, rfl⟩
    walk_at "go"
    refine c_kLenSetN hs o3 (by omega) ?_
    walk_at "go"
    exact kk
end Rf

set_option Elab.async false
set_option linter.all false
set_option maxRecDepth 100000
set_option maxHeartbeats 4000000
namespace Rf
open PySem PySem.Spec L2 Rm
local macro_rules | `(tactic| walk_at "ne") => `(tactic| first | assumption | (apply Ne.symm; assumption) | exact ne_new (by walk_at "hp") (by assumption) | exact ne_old (by walk_at "hp") (by assumption))
local macro_rules | `(tactic| walk_at "hp") => `(tactic| first | assumption | exact get_same (by assumption) (by walk_at "hp") | exact get_but (by assumption) (by walk_at "ne") (by walk_at "hp"))
local macro_rules | `(tactic| walk_at "sl") => `(tactic| first | assumption | exact sl_of (by assumption) | exact sl_same (by assumption) (by walk_at "sl") | exact sl_but (by assumption) (by walk_at "ne") (by walk_at "sl"))
local macro_rules | `(tactic| walk_at "st") => `(tactic| first | assumption | exact st_of (by assumption) | exact st_same (by assumption) (by walk_at "st") | exact st_but (by assumption) (by walk_at "ne") (by walk_at "st"))
local macro_rules | `(tactic| walk_at "sm") => `(tactic| first | assumption | exact Same.refl _ | exact same_tr (by assumption) (by walk_at "sm") | exact same_bt (by assumption) (by walk_at "fr") (by walk_at "sm"))
local macro_rules | `(tactic| walk_at "fr") => `(tactic| first | assumption | exact none_of_same (by assumption) (by walk_at "sm"))
local macro_rules | `(tactic| walk_at "dec") => `(tactic| first | rfl | assumption | omega | (simp only [decide_eq_true_eq, decide_eq_false_iff_not, Bool.not_eq_true', Bool.not_eq_false', Bool.not_true, Bool.not_false, Bool.and_eq_true, Bool.or_eq_true, Bool.and_eq_false_iff, Bool.or_eq_false_iff, Bool.not_eq_true, Bool.not_eq_false] <;> first | omega | assumption | rfl | (constructor <;> omega)))
local macro_rules | `(tactic| walk_at "len") => `(tactic| first | decide | omega | (simp only [List.length_append, List.length_cons, List.length_nil, List.length_map, List.length_range, List.length_reverse, List.length_set, List.length_take, List.length_drop] <;> omega) | (simp <;> omega))
local macro_rules | `(tactic| walk_at "s") => `(tactic| first
  | (with_reducible refine c_seq ?_)
  | (with_reducible refine c_asg ?_)
  | (with_reducible refine c_op ?_)
  | ((with_reducible refine' c_var ?hv ?_); (case hv => exact rfl))
  | (with_reducible refine c_c ?_)
  | (with_reducible refine c_cons ?_)
  | (with_reducible refine c_nil ?_)
  | (with_reducible refine c_and1 ?_)
  | (with_reducible refine c_shr1 ?_)
  | (with_reducible refine c_i0 ?_)
  | ((with_reducible refine' c_mul ?hv ?_); (case hv => omega))
  | ((with_reducible refine' c_div ?hv ?_); (case hv => omega))
  | ((with_reducible refine' c_mod ?hv ?_); (case hv => omega))
  | (with_reducible refine c_un ?_)
  | (with_reducible refine c_iU ?_)
  | (with_reducible refine c_call ?_)
  | (with_reducible refine c_tTest ?_)
  | (with_reducible refine c_tB ?_)
  | (with_reducible refine c_kB ?_)
  | (with_reducible refine c_ifS ?_)
  | (with_reducible refine c_gn0 ?_)
  | (with_reducible refine c_gn1 ?_)
  | (with_reducible refine c_gn2 ?_)
  | (with_reducible refine c_gn3 ?_)
  | (with_reducible refine c_gn4 ?_)
  | (with_reducible refine c_gn5 ?_)
  | (with_reducible refine c_gn6 ?_)
  | (with_reducible refine c_gn7 ?_)
  | (with_reducible refine c_gn8 ?_)
  | (with_reducible refine c_gnS ?_)
  | (with_reducible refine c_eqI ?_)
  | (with_reducible refine c_neI ?_)
  | (with_reducible refine c_eqS ?_)
  | (with_reducible refine c_neS ?_)
  | (with_reducible refine c_eqB ?_)
  | (with_reducible refine c_neB ?_)
  | (with_reducible refine c_and ?_)
  | (with_reducible refine c_or ?_)
  | (with_reducible refine c_not ?_)
  | (with_reducible refine c_andV ?_)
  | (with_reducible refine c_orV ?_)
  | (with_reducible refine c_notV ?_)
  | (with_reducible refine c_ifE ?_)
  | (with_reducible refine c_tYes ?_)
  | (with_reducible refine c_chain ?_)
  | ((with_reducible refine' c_chLe ?hv ?_ ?hm); (case hv => exact ⟨rfl, rfl⟩); (case hm => exact fun R R' hh q => hh _ _ q))
  | ((with_reducible refine' c_chLe ?hv ?_ ?hm); (case hv => exact ⟨_, rfl, rfl, rfl⟩); (case hm => exact fun R R' hh ⟨v, e, q⟩ => ⟨v, e, hh _ _ q⟩))
  | (with_reducible refine c_tup ?_)
  | (with_reducible refine c_lst ?_)
  | ((with_reducible refine' c_kTup ?hv ?_); (case hv => walk_at "len"); intro _ _ _ _ _)
  | ((with_reducible refine' c_kLst ?hv ?_); (case hv => walk_at "len"); intro _ _ _ _ _)
  | ((with_reducible refine' c_ixL ?hv ?ha ?_); (case hv => walk_at "sl"); (case ha => walk_at "at"))
  | ((with_reducible refine' c_ixT ?hv ?ha ?_); (case hv => walk_at "st"); (case ha => walk_at "at"))
  | ((with_reducible refine' c_cat ?hv ?ha ?hz ?_); (case hv => walk_at "hp"); (case ha => walk_at "hp"); (case hz => walk_at "len"); intro _ _ _ _ _)
  | ((with_reducible refine' c_addS ?hv ?_); (case hv => walk_at "len"))
  | (with_reducible refine c_sl ?_)
  | (with_reducible refine c_noP ?_)
  | (with_reducible refine c_part ?_)
  | (with_reducible refine c_kPart ?_)
  | ((with_reducible refine' c_slL ?hv ?_); (case hv => walk_at "sl"); intro _ _ _ _ _)
  | ((with_reducible refine' c_slX ?hv ?_); (case hv => walk_at "len"))
  | (with_reducible refine c_rev ?_)
  | ((with_reducible refine' c_kRev ?hv ?_); (case hv => walk_at "sl"); intro _ _ _ _ _)
  | (with_reducible refine c_CB ?_)
  | ((with_reducible refine' c_lenM ?hv ?_); (case hv => walk_at "sl"))
  | ((with_reducible refine' c_lenL ?hv ?_); (case hv => walk_at "sl"))
  | ((with_reducible refine' c_lenS ?hv ?_); (case hv => walk_at "len"))
  | ((with_reducible refine' c_listOf ?hv ?_); (case hv => walk_at "sl"); intro _ _ _ _ _)
  | (with_reducible refine c_min2 ?_)
  | (with_reducible refine c_listRg ?_)
  | (with_reducible refine c_rg1 ?_)
  | (with_reducible refine c_kRg1 ?_)
  | (with_reducible refine c_rg2 ?_)
  | (with_reducible refine c_kRg2 ?_)
  | ((with_reducible refine' c_kRgN ?hv ?_); (case hv => omega); intro _ _ _ _ _)
  | ((with_reducible refine' c_kRgN2 ?hv ?ha ?_); (case hv => omega); (case ha => omega); intro _ _ _ _ _)
  | ((with_reducible refine' c_kRg ?hv ?ha ?_); (case hv => omega); (case ha => omega); intro _ _ _ _ _)
  | (with_reducible refine c_lenSet ?_)
  | (with_reducible refine c_meth ?_)
  | (with_reducible refine c_methA ?_)
  | (with_reducible refine c_make ?_)
  | ((with_reducible refine c_makeO ?_); intro _ _ _ _ _ _)
  | (with_reducible refine c_fld ?_)
  | (with_reducible refine c_bm ?_)
  | (with_reducible refine c_bm0 ?_)
  | ((with_reducible refine' c_kBMl ?hv ?_); (case hv => walk_at "sl"))
  | ((with_reducible refine' c_kBM0l ?hv ?_); (case hv => walk_at "sl"))
  | (with_reducible refine c_kBMs ?_)
  | (with_reducible refine c_kBM0s ?_)
  | ((with_reducible refine' c_append ?hv ?hz ?_); (case hv => walk_at "hp"); (case hz => walk_at "len"); intro _ _ _)
  | ((with_reducible refine' c_extend ?hv ?ha ?hz ?_); (case hv => walk_at "hp"); (case ha => walk_at "hp"); (case hz => walk_at "len"); intro _ _ _)
  | ((with_reducible refine' c_reverse ?hv ?_); (case hv => walk_at "hp"); intro _ _ _)
  | ((with_reducible refine' c_clear ?hv ?_); (case hv => walk_at "hp"); intro _ _ _)
  | ((with_reducible refine' c_gtup ?hv ?ha ?_); (case hv => walk_at "st"); (case ha => exact rfl))
  | (with_reducible refine c_gnil ?_)
  | (with_reducible refine c_gcons ?_)
  | (with_reducible refine c_gsub ?_)
  | (with_reducible refine c_next ?_)
  | (with_reducible refine c_par ?_)
  | (with_reducible refine c_kPar ?_)
  | ((with_reducible refine' c_aug ?hv ?_); (case hv => exact rfl))
  | (with_reducible refine c_ipI ?_)
  | (with_reducible refine c_drop ?_)
  | (with_reducible refine c_ret ?_)
  | (with_reducible refine c_retN ?_)
  | (with_reducible refine c_sfld ?_)
  | (with_reducible refine c_forL ?_)
  | (with_reducible refine c_for1 ?_)
  | (with_reducible refine c_for2 ?_)
  | (with_reducible refine c_forS ?_)
  | (with_reducible refine c_forRev ?_)
  | (with_reducible refine c_lcL ?_)
  | (with_reducible refine c_lc1 ?_)
  | (refine if_f (by walk_at "dec") ?_)
  | (refine if_t (by walk_at "dec") ?_)
  | walk_at "own")
local macro_rules | `(tactic| walk_at "go") => `(tactic| repeat walk_at "s")

local macro_rules | `(tactic| walk_at "kit") => `(tactic| first | exact kit_int_int | exact kit_int_bool | exact kit_int_str | exact kit_int_list | exact kit_list_list | exact kit_list_int | exact kit_list_bool | exact kit_str_str | exact kit_str_int | exact kit_str_list | exact kit_bool_bool | exact kit_bool_int | exact kit_bool_list)
local macro_rules | `(tactic| walk_at "own") => `(tactic| first
  | ((with_reducible refine' c_isiI ?h3 ?_); (case h3 => walk_at "kit"))
  | ((with_reducible refine' c_isiL ?h1 ?h3 ?_); (case h1 => walk_at "sl"); (case h3 => walk_at "kit"))
  | ((with_reducible refine' c_isiS ?h3 ?_); (case h3 => walk_at "kit"))
  | ((with_reducible refine' c_isiB ?h3 ?_); (case h3 => walk_at "kit"))
  | (with_reducible refine c_within ?_))
local macro_rules | `(tactic| walk_at "tn") => `(tactic| first | exact tn_nat _ | exact tn_add _ _ | exact tn_sub1 _ (by omega) | exact tn_sub _ _ (by omega) | exact rfl)
local macro_rules | `(tactic| walk_at "at") => `(tactic| first | exact at_DN (by walk_at "tn") (by omega) (by omega) | exact at_DI (by walk_at "tn") (by omega) (by omega) | rfl | assumption | exact at_map (by assumption) (by first | rfl | omega))


variable {K : PySem.W.Frag} {C : Cl} {vs : List V} {H : Hp} {Q : VK} {E : XK}
theorem c_cell_at {a : Addr} {ns : List Int} {k : Int} (h : SqL K H a (ns.map V.int)) (h0 : 0 ≤ k) (kk : Q (.int (ns.getD k.toNat 0)) H) : sp_l_cell_at K C [.ref a, .int k] H Q E := ⟨a, ns, k, rfl, h, h0, kk⟩
theorem c_draw {c k m : Int} (h : 0 ≤ k ∧ k ≤ 1000000) (hm : 0 < m) (kk : ∀ H', Same H H' → Q (vN (drawF c k m)) H') : sp_l_draw K C [.int c, .int k, .int m] H Q E := ⟨c, k, m, rfl, h.1, h.2, hm, kk⟩
theorem mv_same {H H' : Hp} {p : Addr} {m : Mv} (e : Same H H') (h : MvAt C H p m) : MvAt C H' p m := by
  obtain ⟨h1, h2, dx, h3⟩ := h
  exact ⟨h1, h2, dx, e _ _ h3⟩
theorem mvs_same {H H' : Hp} {a : Addr} {ms : List Mv} (e : Same H H') (h : Mvs K C H a ms) : Mvs K C H' a ms := by
  obtain ⟨zs, h1, h2, h3⟩ := h
  exact ⟨zs, sl_same e h1, h2, fun z hz => mv_same e (h3 z hz)⟩
theorem fs_done (m : Mv) {f : Str} (h : f ≠ "many" ∧ f ≠ "piles" ∧ f ≠ "first" ∧ f ≠ "word") : m.fs.lookup f = none := by
  obtain ⟨h1, h2, h3, h4⟩ := h
  have e1 : (f == ("many" : Str)) = false := beq_eq_false_iff_ne.mpr h1
  have e2 : (f == ("piles" : Str)) = false := beq_eq_false_iff_ne.mpr h2
  have e3 : (f == ("first" : Str)) = false := beq_eq_false_iff_ne.mpr h3
  have e4 : (f == ("word" : Str)) = false := beq_eq_false_iff_ne.mpr h4
  cases m <;> simp only [Mv.fs, List.lookup, e1, e2, e3, e4]
theorem isP_came {m : Mv} {n : Nat} (h : m.Ok) (h2 : m.Fits n) : IsP n (cameF m n) := by
  cases m with
  | cut k => exact isP_cut h2
  | turn => exact (isP_range n).reverse
  | deal p => exact isP_deal h.1
  | under => exact isP_under n
  | weave f => exact isP_weave h2
  | riffle w =>
    have h2 : w.length = n := h2
    subst h2
    exact isP_riffle w
theorem came_len {m : Mv} {n : Nat} (h : m.Ok) (h2 : m.Fits n) : (cameF m n).length = n := (isP_came h h2).1
theorem ord_done {m : Mv} {os : List Nat} (h : m.Ok) (h2 : m.Fits os.length) (ho : Ord os) : Ord (doneF m os) := by
  have hl : (doneF m os).length = os.length := by unfold doneF; rw [pick_length, came_len h h2]
  refine ⟨by rw [hl]; exact ho.1, by rw [hl]; exact ho.2.1, ?_⟩
  rw [hl]
  exact isP_pick (isP_came h h2) ho.2.2
theorem small_nat {n : Nat} (h : n ≤ 1000000) : ((n : Int)).natAbs < 2 ^ 1000 := by
  rw [Int.natAbs_natCast]
  exact Nat.lt_of_le_of_lt h (Nat.lt_of_lt_of_le (by decide : 1000000 < 2 ^ 20) (Nat.pow_le_pow_right (by decide) (by decide)))
theorem num_len {n : Nat} (h : n ≤ 60) : (Str.ofString (toString (n : Int))).length = (if n < 10 then 1 else 2) := by
  have : ∀ i : Fin 61, (Str.ofString (toString ((i.val : Nat) : Int))).length = (if i.val < 10 then 1 else 2) := by decide +kernel
  exact this ⟨n, by omega⟩
theorem one_or_two (n : Nat) : (if n < 10 then 1 else 2) ≤ 2 := by split <;> decide
theorem wS_len (w : List Bool) : (wS w).length = w.length := by
  show ((w.map fun b => if b = true then 97 else 98).toArray).size = _
  simp
theorem str_len_app (x y : Str) : (x ++ y).length = x.length + y.length := by
  rw [TL.len_tl, TL.tl_append, List.length_append, ← TL.len_tl, ← TL.len_tl]
theorem mvText_len {m : Mv} (h : m.Ok) : (mvText m).length ≤ 67 := by
  cases m with
  | cut n =>
    show (Str.ofString "cut " ++ Str.ofString (toString (n : Int))).length ≤ 67
    rw [str_len_app, num_len (show n ≤ 60 from h)]
    exact Nat.le_trans (Nat.add_le_add_left (one_or_two _) _) (by decide)
  | turn => decide
  | deal n =>
    show (Str.ofString "deal " ++ Str.ofString (toString (n : Int))).length ≤ 67
    rw [str_len_app, num_len (show n ≤ 60 from h.2)]
    exact Nat.le_trans (Nat.add_le_add_left (one_or_two _) _) (by decide)
  | under => decide
  | weave n =>
    have h : n ≤ 1 := h
    show (Str.ofString "weave " ++ Str.ofString (toString (n : Int))).length ≤ 67
    rw [str_len_app, num_len (show n ≤ 60 by omega)]
    exact Nat.le_trans (Nat.add_le_add_left (one_or_two _) _) (by decide)
  | riffle w =>
    show (Str.ofString "riffle " ++ wS w).length ≤ 67
    rw [str_len_app, wS_len]
    exact Nat.add_le_add_left h.2 _
theorem sum_le {α : Type} {f : α → Nat} {c : Nat} : ∀ {l : List α}, (∀ x ∈ l, f x ≤ c) → (l.map f).sum ≤ l.length * c
  | [], _ => by simp
  | a :: l, h => by
    rw [List.map_cons, List.sum_cons, List.length_cons, Nat.add_mul]
    have h1 := h a (List.mem_cons_self ..)
    have h2 := sum_le (l := l) fun x hx => h x (List.mem_cons_of_mem _ hx)
    omega
theorem c_mkWeave {K : PySem.W.Frag} {C : Cl} {H : Hp} {Q : VK} {E : XK} {f : Nat} (hav : C.av .weave) (hf : f ≤ 1) (k : ∀ x H', H x = none → Same H H' → MvAt C H' x (.weave f) → Q (.ref x) H') : kMake C.cWeave (sp_p_Weave_init K C) E Q [vN f] H := fun x dx hx hd hne =>
  ⟨x, dx, vN f, rfl, upd_same, ⟨f, rfl, hf⟩, fun H' e1 e2 => ⟨rfl, k x H' hx (fun b o hb => e1 b o (ne_of_none hb hx) (by rw [upd_ne (ne_of_none hb hx), upd_ne (ne_of_none hb hd)]; exact hb)) ⟨hav, hf, dx, e2⟩⟩⟩
theorem c_check_order {a : Addr} {os : List Nat} (h : SqL K H a (os.map vN)) (ho : Ord os) (k : Q .non H) : sp_p_check_order K C [.ref a] H Q E := ⟨a, os, rfl, h, ho, k⟩
theorem c_done {p a : Addr} {m : Mv} {os : List Nat} (hp : MvAt C H p m) (h : SqL K H a (os.map vN)) (ho : Ord os) (hf : m.Fits os.length) (k : ∀ q H', H q = none → Same H H' → H' q = some (.lst ((doneF m os).map vN)) → Q (.ref q) H') : sp_done K C m.kd [.ref p, .ref a] H Q E := ⟨p, a, m, os, rfl, rfl, hp, h, ho, hf, k⟩
theorem c_kDone {p : Addr} {m : Mv} {tr : TA} {σ : L2.St} (hp : MvAt C H p m) (k : tr σ H fun us H2 => sp_done K C m.kd (.ref p :: us) H2 Q E) : kMethA C "done" (sp_done K C) E tr σ Q (.ref p) H := by
  obtain ⟨hav, hok, dx, h⟩ := hp
  exact c_kMethA m.kd hav h (fs_done m (by decide)) k
theorem c_written {a : Addr} {ms : List Mv} (h : Mvs K C H a ms) (hn : ms.length ≤ 1000) (k : ∀ H', Same H H' → Q (.str (routine ms)) H') : sp_p_written K C [.ref a] H Q E := ⟨a, ms, rfl, h, hn, k⟩
theorem c_brought {n p : Nat} (h2 : 2 ≤ n) (h60 : n ≤ 60) (he : n % 2 = 0) (hp : p < n)
    (k : ∀ q H' (zs : List (Addr × Mv)), H q = none → Same H H' → H' q = some (.lst (zs.map vZ)) → zs.map (·.2) = (bits p).map Mv.weave → (∀ z ∈ zs, MvAt C H' z.1 z.2) → Q (.ref q) H') : sp_p_brought K C [vN n, vN p] H Q E := ⟨n, p, rfl, h2, h60, he, hp, k⟩
theorem c_woven {a : Addr} {os : List Nat} {f : Nat} (h : SqL K H a (os.map vN)) (h60 : os.length ≤ 60) (he : os.length % 2 = 0) (hf : f ≤ 1) (k : ∀ q H', H q = none → Same H H' → H' q = some (.lst ((pick (weaveCame f os.length) os).map vN)) → Q (.ref q) H') : sp_l_woven K C [.ref a, vN f] H Q E := ⟨a, os, f, rfl, h, h60, he, hf, k⟩
/-! Weave -/
def t_p_Weave_init (K : PySem.W.Frag) (C : Cl) : TS := (tSeq (tIfS (tNot (tB (tCall (sp_p_within K C) [] C8.E0 (tCons (tVar 1) (tCons (tC (.int 0)) (tCons (tC (.int 1)) tNil)))))) tNever tNext) (sFld K (tVar 0) (tVar 1) "first"))
abbrev n_p_Weave_init : List Str := ["self", "first"]
def t_p_Weave_came_b1 (K : PySem.W.Frag) (C : Cl) : TS := (tSeq (tAsg (tLst (tCons (tVar 3) (tCons (tOp oAdd (tOp oDiv (tVar 1) (tC (.int 2))) (tVar 3)) tNil))) (gName 4)) (tSeq (tIfS (tTest (tOp rEq (tFld K (tVar 0) "first") (tC (.int 1)))) (tAsg (tRevL K (tVar 4)) (gName 4)) tNext) (tAsg (tOp rCat (tVar 2) (tVar 4)) (gName 2))))
def t_p_Weave_came (K : PySem.W.Frag) (C : Cl) : TS := (tSeq (tIfS (tTest (tOp rEq (tOp oAnd (tVar 1) (tC (.int 1))) (tC (.int 1)))) tNever tNext) (tSeq (tAsg (tLst tNil) (gName 2)) (tSeq (tFor (iRng1 (tCons (tOp oDiv (tVar 1) (tC (.int 2))) tNil)) (gName 3) (t_p_Weave_came_b1 K C)) (tRet (tVar 2)))))
abbrev n_p_Weave_came : List Str := ["self", "many", "found", "k", "pair"]
theorem rd_p_Weave_init (F : CF K C) (hav : C.av .weave) (h : sp_p_Weave_init K C vs H Q E) : t_p_Weave_init K C { nx := fun _ H' => Q .non H', rt := Q } (start n_p_Weave_init vs) H := by
  obtain ⟨p, dx, v, rfl, hp, ⟨f, rfl, hf⟩, kk⟩ := h
  show t_p_Weave_init K C _ [some (.ref p), some (vN f)] H
  unfold t_p_Weave_init
  walk_at "go"
  refine c_kSFld hp (F.cls .weave hav) (F.nFirst hav) (by decide) fun H' e1 e2 => ?_
  exact kk H' e1 e2
theorem rd_p_Weave_came (F : CF K C) (h : sp_came K C .weave vs H Q E) : t_p_Weave_came K C { nx := fun _ H' => Q .non H', rt := Q } (start n_p_Weave_came vs) H := by
  obtain ⟨p, m, n, rfl, hm, hp, h1, h60, hfit, kk⟩ := h
  cases m <;> cases hm
  rename_i f
  obtain ⟨hav, hf, dx, hp⟩ := hp
  have hf : f ≤ 1 := hf
  have he : n % 2 = 0 := hfit
  show t_p_Weave_came K C _ [some (.ref p), some (vN n), none, none, none] H
  unfold t_p_Weave_came
  walk_at "go"
  refine l_for1 (n / 2) (by omega) (by omega) (fun i σ' H' => ∃ l x y, σ' = [some (.ref p), some (vN n), some (.ref l), x, y] ∧ H l = none ∧ Same H H' ∧ H' l = some (.lst (((List.range i).flatMap (weavePair f (n / 2))).map vN))) ?_ ?_ ?_
  · exact ⟨_, _, _, rfl, by assumption, by assumption, by assumption⟩
  · rintro i _ H' hi ⟨l, x, y, rfl, hl, hs, hl'⟩
    have hp' := hs _ _ hp
    have e1 : (n : Int) / 2 + (i : Int) = ((n / 2 + i : Nat) : Int) := by omega
    have hlen : ((List.range i).flatMap (weavePair f (n / 2))).length = 2 * i := flat2_len (weavePair_len f _) i
    have en : ((List.range (i + 1)).flatMap (weavePair f (n / 2))).map vN = ((List.range i).flatMap (weavePair f (n / 2))).map vN ++ (weavePair f (n / 2) i).map vN := by
      rw [List.range_succ, List.flatMap_append, List.map_append, List.flatMap_cons, List.flatMap_nil, List.append_nil]
    unfold t_p_Weave_came_b1
    walk_at "go"
    refine c_kFld (v := vN f) (dx := dx) (by walk_at "hp") (F.cls .weave hav) (F.nFirst hav) rfl ?_
    walk_at "go"
    refine if_d (fun h => ?_) (fun h => ?_)
    · have h : f = 1 := by omega
      subst h
      walk_at "go"
      refine ⟨_, _, _, rfl, by walk_at "fr", by walk_at "sm", ?_⟩
      · rw [en]
        show _ = some (HO.lst (_ ++ [.int ((n / 2 + i : Nat) : Int), .int (i : Int)]))
        rw [← e1]
        assumption
    · have h : f = 0 := by omega
      subst h
      walk_at "go"
      refine ⟨_, _, _, rfl, by walk_at "fr", by walk_at "sm", ?_⟩
      · rw [en]
        show _ = some (HO.lst (_ ++ [.int (i : Int), .int ((n / 2 + i : Nat) : Int)]))
        rw [← e1]
        assumption
  · rintro _ H' ⟨l, x, y, rfl, hl, hs, hl'⟩
    walk_at "go"
    exact kk _ _ hl hs hl'
def t_p_Move_done (K : PySem.W.Frag) (C : Cl) : TS := (tSeq (tDrop (tCall (sp_p_check_order K C) [] C8.E0 (tCons (tVar 1) tNil))) (tRet (tLc (iList K (tMethA C "came" (sp_came K C) C8.E0 (tVar 0) (tCons (tCB (rLenQ K) (tCons (tVar 1) tNil)) tNil))) (gName 2) tYes (tOp (rIxL K) (tVar 1) (tVar 2)) [2])))
abbrev n_p_Move_done : List Str := ["self", "order", "place"]
theorem rd_p_Move_done (F : CF K C) (κ : Kd) (h : sp_done K C κ vs H Q E) : t_p_Move_done K C { nx := fun _ H' => Q .non H', rt := Q } (start n_p_Move_done vs) H := by
  obtain ⟨p, a, m, os, rfl, hm, hp, hs, ho, hfit, kk⟩ := h
  show t_p_Move_done K C _ [some (.ref p), some (.ref a), none] H
  unfold t_p_Move_done
  walk_at "go"
  refine ⟨a, os, rfl, hs, ho, ?_⟩
  have hp0 := hp
  obtain ⟨hav, hok, dx, hp1⟩ := hp0
  walk_at "go"
  refine c_kMethA m.kd hav hp1 (fs_done m (by decide)) ?_
  walk_at "go"
  refine ⟨p, m, os.length, rfl, rfl, hp, ho.1, ho.2.1, hfit, fun q H' hq hs' hq' => ?_⟩
  refine l_lcF (fun i => vN (os.getD i 0)) (sl_of hq') ?_ (fun x => rfl) (fun x H'' Q' hx s2 k' => ?_) (fun r H'' hr s2 hr' => ?_)
  · rw [came_len hok hfit]; have := ho.2.1; omega
  · have hx' : x < os.length := (isP_came hok hfit).2.2 x hx
    have hi : os[x]? = some (os.getD x 0) := get?_getD hx'
    show tOp (rIxL K) (tVar 1) (tVar 2) [some (.ref p), some (.ref a), some (vN x)] H'' Q'
    walk_at "go"
    exact k' _ (Same.refl _)
  · refine kk r H'' (none_same hs' hr) (by walk_at "sm") ?_
    rw [hr', doneF, pick, List.map_map]
    rfl
def t_p_check_moves_b1 (K : PySem.W.Frag) (C : Cl) : TS := (tIfS (tNot (tB (tCB (rIsi K) (tCons (tVar 1) (tCons (tC (.ref C.cMove)) tNil))))) tNever tNext)
def t_p_check_moves (K : PySem.W.Frag) (C : Cl) : TS := (tSeq (tIfS (tNot (tB (tCB (rIsi K) (tCons (tVar 0) (tCons (tC (.ty "list")) tNil))))) tNever tNext) (tFor (iList K (tVar 0)) (gName 1) (t_p_check_moves_b1 K C)))
abbrev n_p_check_moves : List Str := ["moves", "move"]
theorem rd_p_check_moves (F : CF K C) (h : sp_p_check_moves K C vs H Q E) : t_p_check_moves K C { nx := fun _ H' => Q .non H', rt := Q } (start n_p_check_moves vs) H := by
  obtain ⟨a, ms, rfl, ⟨zs, hs, _, hp⟩, kk⟩ := h
  show t_p_check_moves K C _ [some (.ref a), none] H
  unfold t_p_check_moves
  walk_at "go"
  refine l_forM hs (fun pre σ' H' => ∃ c, σ' = [some (.ref a), c] ∧ H' = H) ⟨_, rfl, rfl⟩ (fun _ _ _ _ _ ⟨_, _, e⟩ => e ▸ hs) ?_ ?_
  · rintro pre x post _ _ e ⟨c, rfl, rfl⟩
    obtain ⟨hav, hok, dx, hp1⟩ := hp x (by rw [e]; simp)
    unfold t_p_check_moves_b1
    walk_at "go"
    refine c_isi (.own _) (F.ty _ hav _ _ _ _ hp1) (F.kitM _ hav) ?_
    walk_at "go"
    exact ⟨_, rfl, rfl⟩
  · rintro _ _ ⟨c, rfl, rfl⟩
    exact kk
def t_p_move_text (K : PySem.W.Frag) (C : Cl) : TS := (tSeq (tIfS (tB (tCB (rIsi K) (tCons (tVar 0) (tCons (tC (.ref C.cCut)) tNil)))) (tRet (tOp rAddS (tC (.str "cut ")) (tCB rStrI (tCons (tFld K (tVar 0) "many") tNil)))) tNext) (tSeq (tIfS (tB (tCB (rIsi K) (tCons (tVar 0) (tCons (tC (.ref C.cDeal)) tNil)))) (tRet (tOp rAddS (tC (.str "deal ")) (tCB rStrI (tCons (tFld K (tVar 0) "piles") tNil)))) tNext) (tSeq (tIfS (tB (tCB (rIsi K) (tCons (tVar 0) (tCons (tC (.ref C.cWeave)) tNil)))) (tRet (tOp rAddS (tC (.str "weave ")) (tCB rStrI (tCons (tFld K (tVar 0) "first") tNil)))) tNext) (tSeq (tIfS (tB (tCB (rIsi K) (tCons (tVar 0) (tCons (tC (.ref C.cRiffle)) tNil)))) (tRet (tOp rAddS (tC (.str "riffle ")) (tFld K (tVar 0) "word"))) tNext) (tSeq (tIfS (tB (tCB (rIsi K) (tCons (tVar 0) (tCons (tC (.ref C.cTurn)) tNil)))) (tRet (tC (.str "turn"))) tNext) (tRet (tC (.str "under"))))))))
abbrev n_p_move_text : List Str := ["move"]
def t_p_written (K : PySem.W.Frag) (C : Cl) : TS := (tSeq (tDrop (tCall (sp_p_check_moves K C) [] C8.E0 (tCons (tVar 0) tNil))) (tRet (tBM K "str" (rJoinS K) (tC (.str "; ")) (tCons (tLc (iList K (tVar 0)) (gName 1) tYes (tCall (sp_p_move_text K C) [] C8.E0 (tCons (tVar 1) tNil)) [1]) tNil))))
abbrev n_p_written : List Str := ["moves", "move"]
theorem rd_p_move_text (F : CF K C) (P : C.pr .cut ∧ C.pr .deal ∧ C.pr .weave ∧ C.pr .riffle ∧ C.pr .turn) (h : sp_p_move_text K C vs H Q E) : t_p_move_text K C { nx := fun _ H' => Q .non H', rt := Q } (start n_p_move_text vs) H := by
  obtain ⟨p, m, rfl, hp, kk⟩ := h
  show t_p_move_text K C _ [some (.ref p)] H
  unfold t_p_move_text
  obtain ⟨hav, hok, dx, hp1⟩ := hp
  have ty := F.ty _ hav _ _ _ _ hp1
  cases m with
  | cut n =>
    walk_at "go"
    refine c_isi (.own _) ty (F.kit _ .cut hav P.1) ?_
    walk_at "go"
    refine c_kFld hp1 (F.cls _ hav) (F.nMany hav) rfl ?_
    walk_at "go"
    refine c_strI (small_nat (n := n) (Nat.le_trans (show n ≤ 60 from hok) (by decide))) ?_
    refine c_addS (by rw [num_len (show n ≤ 60 from hok)]; exact Nat.le_trans (Nat.add_le_add_left (one_or_two _) _) (by decide)) ?_
    exact kk
  | turn =>
    walk_at "go"
    refine c_isi (.own _) ty (F.kit _ .cut hav P.1) ?_
    walk_at "go"
    refine c_isi (.own _) ty (F.kit _ .deal hav P.2.1) ?_
    walk_at "go"
    refine c_isi (.own _) ty (F.kit _ .weave hav P.2.2.1) ?_
    walk_at "go"
    refine c_isi (.own _) ty (F.kit _ .riffle hav P.2.2.2.1) ?_
    walk_at "go"
    refine c_isi (.own _) ty (F.kit _ .turn hav P.2.2.2.2) ?_
    walk_at "go"
    exact kk
  | deal n =>
    walk_at "go"
    refine c_isi (.own _) ty (F.kit _ .cut hav P.1) ?_
    walk_at "go"
    refine c_isi (.own _) ty (F.kit _ .deal hav P.2.1) ?_
    walk_at "go"
    refine c_kFld hp1 (F.cls _ hav) (F.nPiles hav) rfl ?_
    walk_at "go"
    refine c_strI (small_nat (n := n) (Nat.le_trans (show n ≤ 60 from hok.2) (by decide))) ?_
    refine c_addS (by rw [num_len (show n ≤ 60 from hok.2)]; exact Nat.le_trans (Nat.add_le_add_left (one_or_two _) _) (by decide)) ?_
    exact kk
  | under =>
    walk_at "go"
    refine c_isi (.own _) ty (F.kit _ .cut hav P.1) ?_
    walk_at "go"
    refine c_isi (.own _) ty (F.kit _ .deal hav P.2.1) ?_
    walk_at "go"
    refine c_isi (.own _) ty (F.kit _ .weave hav P.2.2.1) ?_
    walk_at "go"
    refine c_isi (.own _) ty (F.kit _ .riffle hav P.2.2.2.1) ?_
    walk_at "go"
    refine c_isi (.own _) ty (F.kit _ .turn hav P.2.2.2.2) ?_
    walk_at "go"
    exact kk
  | weave n =>
    walk_at "go"
    refine c_isi (.own _) ty (F.kit _ .cut hav P.1) ?_
    walk_at "go"
    refine c_isi (.own _) ty (F.kit _ .deal hav P.2.1) ?_
    walk_at "go"
    refine c_isi (.own _) ty (F.kit _ .weave hav P.2.2.1) ?_
    walk_at "go"
    refine c_kFld hp1 (F.cls _ hav) (F.nFirst hav) rfl ?_
    walk_at "go"
    have hn : n ≤ 60 := Nat.le_trans (show n ≤ 1 from hok) (by decide)
    refine c_strI (small_nat (n := n) (Nat.le_trans hn (by decide))) ?_
    refine c_addS (by rw [num_len hn]; exact Nat.le_trans (Nat.add_le_add_left (one_or_two _) _) (by decide)) ?_
    exact kk
  | riffle w =>
    walk_at "go"
    refine c_isi (.own _) ty (F.kit _ .cut hav P.1) ?_
    walk_at "go"
    refine c_isi (.own _) ty (F.kit _ .deal hav P.2.1) ?_
    walk_at "go"
    refine c_isi (.own _) ty (F.kit _ .weave hav P.2.2.1) ?_
    walk_at "go"
    refine c_isi (.own _) ty (F.kit _ .riffle hav P.2.2.2.1) ?_
    walk_at "go"
    refine c_kFld hp1 (F.cls _ hav) (F.nWord hav) rfl ?_
    refine c_addS (by rw [wS_len]; exact Nat.le_trans (Nat.add_le_add_left hok.2 _) (by decide)) ?_
    exact kk
theorem rd_p_written (F : CF K C) (h : sp_p_written K C vs H Q E) : t_p_written K C { nx := fun _ H' => Q .non H', rt := Q } (start n_p_written vs) H := by
  obtain ⟨a, ms, rfl, hm, hn, kk⟩ := h
  show t_p_written K C _ [some (.ref a), none] H
  unfold t_p_written
  walk_at "go"
  refine ⟨a, ms, rfl, hm, ?_⟩
  walk_at "go"
  obtain ⟨zs, hs, rfl, hz⟩ := hm
  rw [List.length_map] at hn
  refine l_lcF (fun z => V.str (mvText z.2)) hs (by omega) (fun x => rfl) (fun x H'' Q' hx s2 k' => ?_) (fun r H'' hr s2 hr' => ?_)
  · show tCall (sp_p_move_text K C) [] C8.E0 (tCons (tVar 1) tNil) [some (.ref a), some (.ref x.1)] H'' Q'
    walk_at "go"
    exact ⟨x.1, x.2, rfl, mv_same s2 (hz x hx), k' _ (Same.refl _)⟩
  · walk_at "go"
    have hr2 : H'' r = some (.lst ((zs.map fun z => mvText z.2).map V.str)) := by rw [List.map_map]; exact hr'
    refine c_joinS (sl_of hr2) ?_ ?_
    · rw [List.map_map, List.length_map]
      have h1 := sum_le (l := zs) (f := fun z => (mvText z.2).length) (c := 67) fun z hz' => mvText_len (hz z hz').2.1
      have h2 : (Str.ofString "; ").length = 2 := by decide
      rw [h2]
      show (zs.map fun z => (mvText z.2).length).sum + _ ≤ _
      omega
    · have e : routine (zs.map (·.2)) = Txt.join "; " (zs.map fun z => mvText z.2) := by
        unfold routine
        rw [List.map_map]
        rfl
      rw [← e]
      exact kk _ s2
end Rf

set_option Elab.async false
set_option linter.all false
set_option maxRecDepth 100000
set_option maxHeartbeats 4000000
namespace Rf
open PySem PySem.Spec L2 Rm
local macro_rules | `(tactic| walk_at "ne") => `(tactic| first | assumption | (apply Ne.symm; assumption) | exact ne_new (by walk_at "hp") (by assumption) | exact ne_old (by walk_at "hp") (by assumption))
local macro_rules | `(tactic| walk_at "hp") => `(tactic| first | assumption | exact get_same (by assumption) (by walk_at "hp") | exact get_but (by assumption) (by walk_at "ne") (by walk_at "hp"))
local macro_rules | `(tactic| walk_at "sl") => `(tactic| first | assumption | exact sl_of (by assumption) | exact sl_same (by assumption) (by walk_at "sl") | exact sl_but (by assumption) (by walk_at "ne") (by walk_at "sl"))
local macro_rules | `(tactic| walk_at "st") => `(tactic| first | assumption | exact st_of (by assumption) | exact st_same (by assumption) (by walk_at "st") | exact st_but (by assumption) (by walk_at "ne") (by walk_at "st"))
local macro_rules | `(tactic| walk_at "sm") => `(tactic| first | assumption | exact Same.refl _ | exact same_tr (by assumption) (by walk_at "sm") | exact same_bt (by assumption) (by walk_at "fr") (by walk_at "sm"))
local macro_rules | `(tactic| walk_at "fr") => `(tactic| first | assumption | exact none_of_same (by assumption) (by walk_at "sm"))
local macro_rules | `(tactic| walk_at "dec") => `(tactic| first | rfl | assumption | omega | (simp only [decide_eq_true_eq, decide_eq_false_iff_not, Bool.not_eq_true', Bool.not_eq_false', Bool.not_true, Bool.not_false, Bool.and_eq_true, Bool.or_eq_true, Bool.and_eq_false_iff, Bool.or_eq_false_iff, Bool.not_eq_true, Bool.not_eq_false] <;> first | omega | assumption | rfl | (constructor <;> omega)))
local macro_rules | `(tactic| walk_at "len") => `(tactic| first | decide | omega | (simp only [List.length_append, List.length_cons, List.length_nil, List.length_map, List.length_range, List.length_reverse, List.length_set, List.length_take, List.length_drop] <;> omega) | (simp <;> omega))
local macro_rules | `(tactic| walk_at "s") => `(tactic| first
  | (with_reducible refine c_seq ?_)
  | (with_reducible refine c_asg ?_)
  | (with_reducible refine c_op ?_)
  | ((with_reducible refine' c_var ?hv ?_); (case hv => exact rfl))
  | (with_reducible refine c_c ?_)
  | (with_reducible refine c_cons ?_)
  | (with_reducible refine c_nil ?_)
  | (with_reducible refine c_and1 ?_)
  | (with_reducible refine c_shr1 ?_)
  | (with_reducible refine c_i0 ?_)
  | ((with_reducible refine' c_mul ?hv ?_); (case hv => omega))
  | ((with_reducible refine' c_div ?hv ?_); (case hv => omega))
  | ((with_reducible refine' c_mod ?hv ?_); (case hv => omega))
  | (with_reducible refine c_un ?_)
  | (with_reducible refine c_iU ?_)
  | (with_reducible refine c_call ?_)
  | (with_reducible refine c_tTest ?_)
  | (with_reducible refine c_tB ?_)
  | (with_reducible refine c_kB ?_)
  | (with_reducible refine c_ifS ?_)
  | (with_reducible refine c_gn0 ?_)
  | (with_reducible refine c_gn1 ?_)
  | (with_reducible refine c_gn2 ?_)
  | (with_reducible refine c_gn3 ?_)
  | (with_reducible refine c_gn4 ?_)
  | (with_reducible refine c_gn5 ?_)
  | (with_reducible refine c_gn6 ?_)
  | (with_reducible refine c_gn7 ?_)
  | (with_reducible refine c_gn8 ?_)
  | (with_reducible refine c_gnS ?_)
  | (with_reducible refine c_eqI ?_)
  | (with_reducible refine c_neI ?_)
  | (with_reducible refine c_eqS ?_)
  | (with_reducible refine c_neS ?_)
  | (with_reducible refine c_eqB ?_)
  | (with_reducible refine c_neB ?_)
  | (with_reducible refine c_and ?_)
  | (with_reducible refine c_or ?_)
  | (with_reducible refine c_not ?_)
  | (with_reducible refine c_andV ?_)
  | (with_reducible refine c_orV ?_)
  | (with_reducible refine c_notV ?_)
  | (with_reducible refine c_ifE ?_)
  | (with_reducible refine c_tYes ?_)
  | (with_reducible refine c_chain ?_)
  | ((with_reducible refine' c_chLe ?hv ?_ ?hm); (case hv => exact ⟨rfl, rfl⟩); (case hm => exact fun R R' hh q => hh _ _ q))
  | ((with_reducible refine' c_chLe ?hv ?_ ?hm); (case hv => exact ⟨_, rfl, rfl, rfl⟩); (case hm => exact fun R R' hh ⟨v, e, q⟩ => ⟨v, e, hh _ _ q⟩))
  | (with_reducible refine c_tup ?_)
  | (with_reducible refine c_lst ?_)
  | ((with_reducible refine' c_kTup ?hv ?_); (case hv => walk_at "len"); intro _ _ _ _ _)
  | ((with_reducible refine' c_kLst ?hv ?_); (case hv => walk_at "len"); intro _ _ _ _ _)
  | ((with_reducible refine' c_ixL ?hv ?ha ?_); (case hv => walk_at "sl"); (case ha => walk_at "at"))
  | ((with_reducible refine' c_ixT ?hv ?ha ?_); (case hv => walk_at "st"); (case ha => walk_at "at"))
  | ((with_reducible refine' c_cat ?hv ?ha ?hz ?_); (case hv => walk_at "hp"); (case ha => walk_at "hp"); (case hz => walk_at "len"); intro _ _ _ _ _)
  | ((with_reducible refine' c_addS ?hv ?_); (case hv => walk_at "len"))
  | (with_reducible refine c_sl ?_)
  | (with_reducible refine c_noP ?_)
  | (with_reducible refine c_part ?_)
  | (with_reducible refine c_kPart ?_)
  | ((with_reducible refine' c_slL ?hv ?_); (case hv => walk_at "sl"); intro _ _ _ _ _)
  | ((with_reducible refine' c_slX ?hv ?_); (case hv => walk_at "len"))
  | (with_reducible refine c_rev ?_)
  | ((with_reducible refine' c_kRev ?hv ?_); (case hv => walk_at "sl"); intro _ _ _ _ _)
  | (with_reducible refine c_CB ?_)
  | ((with_reducible refine' c_lenM ?hv ?_); (case hv => walk_at "sl"))
  | ((with_reducible refine' c_lenL ?hv ?_); (case hv => walk_at "sl"))
  | ((with_reducible refine' c_lenS ?hv ?_); (case hv => walk_at "len"))
  | ((with_reducible refine' c_listOf ?hv ?_); (case hv => walk_at "sl"); intro _ _ _ _ _)
  | (with_reducible refine c_min2 ?_)
  | (with_reducible refine c_listRg ?_)
  | (with_reducible refine c_rg1 ?_)
  | (with_reducible refine c_kRg1 ?_)
  | (with_reducible refine c_rg2 ?_)
  | (with_reducible refine c_kRg2 ?_)
  | ((with_reducible refine' c_kRgN ?hv ?_); (case hv => omega); intro _ _ _ _ _)
  | ((with_reducible refine' c_kRgN2 ?hv ?ha ?_); (case hv => omega); (case ha => omega); intro _ _ _ _ _)
  | ((with_reducible refine' c_kRg ?hv ?ha ?_); (case hv => omega); (case ha => omega); intro _ _ _ _ _)
  | (with_reducible refine c_lenSet ?_)
  | (with_reducible refine c_meth ?_)
  | (with_reducible refine c_methA ?_)
  | (with_reducible refine c_make ?_)
  | ((with_reducible refine c_makeO ?_); intro _ _ _ _ _ _)
  | (with_reducible refine c_fld ?_)
  | (with_reducible refine c_bm ?_)
  | (with_reducible refine c_bm0 ?_)
  | ((with_reducible refine' c_kBMl ?hv ?_); (case hv => walk_at "sl"))
  | ((with_reducible refine' c_kBM0l ?hv ?_); (case hv => walk_at "sl"))
  | (with_reducible refine c_kBMs ?_)
  | (with_reducible refine c_kBM0s ?_)
  | ((with_reducible refine' c_append ?hv ?hz ?_); (case hv => walk_at "hp"); (case hz => walk_at "len"); intro _ _ _)
  | ((with_reducible refine' c_extend ?hv ?ha ?hz ?_); (case hv => walk_at "hp"); (case ha => walk_at "hp"); (case hz => walk_at "len"); intro _ _ _)
  | ((with_reducible refine' c_reverse ?hv ?_); (case hv => walk_at "hp"); intro _ _ _)
  | ((with_reducible refine' c_clear ?hv ?_); (case hv => walk_at "hp"); intro _ _ _)
  | ((with_reducible refine' c_gtup ?hv ?ha ?_); (case hv => walk_at "st"); (case ha => exact rfl))
  | (with_reducible refine c_gnil ?_)
  | (with_reducible refine c_gcons ?_)
  | (with_reducible refine c_gsub ?_)
  | (with_reducible refine c_next ?_)
  | (with_reducible refine c_par ?_)
  | (with_reducible refine c_kPar ?_)
  | ((with_reducible refine' c_aug ?hv ?_); (case hv => exact rfl))
  | (with_reducible refine c_ipI ?_)
  | (with_reducible refine c_drop ?_)
  | (with_reducible refine c_ret ?_)
  | (with_reducible refine c_retN ?_)
  | (with_reducible refine c_sfld ?_)
  | (with_reducible refine c_forL ?_)
  | (with_reducible refine c_for1 ?_)
  | (with_reducible refine c_for2 ?_)
  | (with_reducible refine c_forS ?_)
  | (with_reducible refine c_forRev ?_)
  | (with_reducible refine c_lcL ?_)
  | (with_reducible refine c_lc1 ?_)
  | (refine if_f (by walk_at "dec") ?_)
  | (refine if_t (by walk_at "dec") ?_)
  | walk_at "own")
local macro_rules | `(tactic| walk_at "go") => `(tactic| repeat walk_at "s")

local macro_rules | `(tactic| walk_at "kit") => `(tactic| first | exact kit_int_int | exact kit_int_bool | exact kit_int_str | exact kit_int_list | exact kit_list_list | exact kit_list_int | exact kit_list_bool | exact kit_str_str | exact kit_str_int | exact kit_str_list | exact kit_bool_bool | exact kit_bool_int | exact kit_bool_list)
local macro_rules | `(tactic| walk_at "own") => `(tactic| first
  | ((with_reducible refine' c_isiI ?h3 ?_); (case h3 => walk_at "kit"))
  | ((with_reducible refine' c_isiL ?h1 ?h3 ?_); (case h1 => walk_at "sl"); (case h3 => walk_at "kit"))
  | ((with_reducible refine' c_isiS ?h3 ?_); (case h3 => walk_at "kit"))
  | ((with_reducible refine' c_isiB ?h3 ?_); (case h3 => walk_at "kit"))
  | (with_reducible refine c_within ?_))
local macro_rules | `(tactic| walk_at "tn") => `(tactic| first | exact tn_nat _ | exact tn_add _ _ | exact tn_sub1 _ (by omega) | exact tn_sub _ _ (by omega) | exact rfl)
local macro_rules | `(tactic| walk_at "at") => `(tactic| first | exact at_DN (by walk_at "tn") (by omega) (by omega) | exact at_DI (by walk_at "tn") (by omega) (by omega) | rfl | assumption | exact at_map (by assumption) (by first | rfl | omega))


local macro_rules | `(tactic| walk_at "own") => `(tactic| first
  | ((with_reducible refine' c_cell_at ?h1 ?h2 ?_); (case h1 => walk_at "sl"); (case h2 => omega))
  | ((with_reducible refine' c_draw ?h1 ?h2 ?_); (case h1 => omega); (case h2 => omega); intro _ _)
  | ((with_reducible refine' c_inN ?h1 ?_); (case h1 => walk_at "sl"))
  | ((with_reducible refine' c_ninN ?h1 ?_); (case h1 => walk_at "sl"))
  | ((with_reducible refine' c_eqLst leaf_nat ?h1 ?h2 ?_); (case h1 => walk_at "sl"); (case h2 => walk_at "sl"))
  | ((with_reducible refine' c_neLst leaf_nat ?h1 ?h2 ?_); (case h1 => walk_at "sl"); (case h2 => walk_at "sl")))

local macro_rules | `(tactic| walk_at "own") => `(tactic| first
  | ((with_reducible refine' c_drawB ?h1 ?h2 ?_); (case h1 => omega); (case h2 => omega); intro _ _ _ _)
  | (with_reducible refine c_dnew ?_; intro _ _ _ _ _)
  | (with_reducible refine c_dget ?_)
  | (with_reducible refine c_dput ?_)
  | (with_reducible refine c_eqSg ?_)
  | (with_reducible refine c_countW ?_)
  | ((with_reducible refine' c_stripW ?h1 ?_); (case h1 => omega))
  | ((with_reducible refine' c_setLN ?h1 ?h2 ?_); (case h1 => walk_at "hp"); (case h2 => walk_at "len"); intro _ _ _))
local macro_rules | `(tactic| walk_at "s") => `(tactic| first
  | ((with_reducible refine' c_slTk ?h1 ?h2 ?_); (case h1 => walk_at "sl"); (case h2 => walk_at "len"); intro _ _ _ _ _)
  | ((with_reducible refine' c_slD1 ?h1 ?h2 ?_); (case h1 => walk_at "sl"); (case h2 => walk_at "len"); intro _ _ _ _ _)
  | ((with_reducible refine' c_slDr ?h1 ?h2 ?_); (case h1 => walk_at "sl"); (case h2 => walk_at "len"); intro _ _ _ _ _))
local macro_rules | `(tactic| walk_at "at") => `(tactic| exact at_D0 (by omega))

variable {K : PySem.W.Frag} {C : Cl} {vs : List V} {H : Hp} {Q : VK} {E : XK}
def t_p_Riffle_init (K : PySem.W.Frag) (C : Cl) : TS := (tSeq (tIfS (tOr (tNot (tB (tCB (rIsi K) (tCons (tVar 1) (tCons (tC (.ty "str")) tNil))))) (tOr (tNot (tTest (tChain oLe oLe (tC (.int 1)) (tCB rLenS (tCons (tVar 1) tNil)) (tC (.int 60))))) (tTest (tOp rNe (tBM K "str" rStripS (tVar 1) (tCons (tC (.str "ab")) tNil)) (tC (.str "")))))) tNever tNext) (sFld K (tVar 0) (tVar 1) "word"))
abbrev n_p_Riffle_init : List Str := ["self", "word"]
def t_p_Riffle_came_b1 (K : PySem.W.Frag) (C : Cl) : TS := (tIfS (tTest (tOp rEq (tVar 5) (tC (.str "a")))) (tSeq (tDrop (tBM K "list" rAppend (tVar 4) (tCons (tVar 2) tNil))) (tAug 2 (tC (.int 1)) ipAdd)) (tSeq (tDrop (tBM K "list" rAppend (tVar 4) (tCons (tVar 3) tNil))) (tAug 3 (tC (.int 1)) ipAdd)))
def t_p_Riffle_came (K : PySem.W.Frag) (C : Cl) : TS := (tSeq (tIfS (tTest (tOp rNe (tCB rLenS (tCons (tFld K (tVar 0) "word") tNil)) (tVar 1))) tNever tNext) (tSeq (tAsg (tC (.int 0)) (gName 2)) (tSeq (tAsg (tBM K "str" rCountS (tFld K (tVar 0) "word") (tCons (tC (.str "a")) tNil)) (gName 3)) (tSeq (tAsg (tLst tNil) (gName 4)) (tSeq (tFor (iStr (tFld K (tVar 0) "word")) (gName 5) (t_p_Riffle_came_b1 K C)) (tRet (tVar 4)))))))
abbrev n_p_Riffle_came : List Str := ["self", "many", "upper", "lower", "found", "sign"]
theorem rd_p_Riffle_init (F : CF K C) (hav : C.av .riffle) (h : sp_p_Riffle_init K C vs H Q E) : t_p_Riffle_init K C { nx := fun _ H' => Q .non H', rt := Q } (start n_p_Riffle_init vs) H := by
  obtain ⟨p, dx, v, rfl, hp, ⟨w, rfl, h1, h60⟩, kk⟩ := h
  have hl := wS_len w
  show t_p_Riffle_init K C _ [some (.ref p), some (.str (wS w))] H
  unfold t_p_Riffle_init
  walk_at "go"
  refine c_kSFld hp (F.cls .riffle hav) (F.nWord hav) (by decide) fun H' e1 e2 => ?_
  exact kk H' e1 e2
theorem rd_p_Riffle_came (F : CF K C) (h : sp_came K C .riffle vs H Q E) : t_p_Riffle_came K C { nx := fun _ H' => Q .non H', rt := Q } (start n_p_Riffle_came vs) H := by
  obtain ⟨p, m, n, rfl, hm, hp, h1, h60, hfit, kk⟩ := h
  cases m <;> cases hm
  rename_i w
  obtain ⟨hav, hok, dx, hp⟩ := hp
  have hf : w.length = n := hfit
  have hl := wS_len w
  subst hf
  show t_p_Riffle_came K C _ [some (.ref p), some (vN w.length), none, none, none, none] H
  unfold t_p_Riffle_came
  walk_at "go"
  refine c_kFld (v := .str (wS w)) (dx := dx) hp (F.cls .riffle hav) (F.nWord hav) rfl ?_
  walk_at "go"
  refine c_kFld (v := .str (wS w)) (dx := dx) hp (F.cls .riffle hav) (F.nWord hav) rfl ?_
  walk_at "go"
  rename_i l0 H1 hl0 s1 hl1
  refine c_kFld (v := .str (wS w)) (dx := dx) (by walk_at "hp") (F.cls .riffle hav) (F.nWord hav) rfl ?_
  refine l_forW (fun pre σ' H' => ∃ l y, σ' = [some (.ref p), some (vN w.length), some (vN (pre.count true)), some (vN (w.count true + pre.count false)), some (.ref l), y] ∧ H l = none ∧ Same H H' ∧ H' l = some (.lst ((riffGo pre 0 (w.count true)).map vN)))
    ⟨_, _, rfl, hl0, s1, hl1⟩ ?_ ?_
  · rintro pre x post _ H' e ⟨l, y, rfl, hl', hs, hl2⟩
    have hlen := riffGo_len pre 0 (w.count true)
    have hpw : pre.length ≤ w.length := by rw [e]; simp
    have hsn := riffGo_snoc pre x 0 (w.count true)
    unfold t_p_Riffle_came_b1
    walk_at "go"
    refine if_2 (fun h => ?_) (fun h => ?_) <;> subst h
    · walk_at "go"
      rename_i H2 e2 hq2
      rw [(count_true_snoc pre).1, (count_true_snoc pre).2, hsn]
      refine ⟨_, _, rfl, hl', same_of_but hl' hs e2, ?_⟩
      rw [hq2, List.map_append]
      simp
    · walk_at "go"
      rename_i H2 e2 hq2
      rw [(count_false_snoc pre).1, (count_false_snoc pre).2, hsn]
      refine ⟨_, _, rfl, hl', same_of_but hl' hs e2, ?_⟩
      rw [hq2, List.map_append]
      simp
  · rintro _ H' ⟨l, y, rfl, hl', hs, hl2⟩
    walk_at "go"
    exact kk _ _ hl' hs hl2
theorem c_mkRiffle {w : List Bool} (hav : C.av .riffle) (h1 : 1 ≤ w.length) (h60 : w.length ≤ 60) (k : ∀ x H', H x = none → Same H H' → MvAt C H' x (.riffle w) → Q (.ref x) H') : kMake C.cRiffle (sp_p_Riffle_init K C) E Q [.str (wS w)] H := fun x dx hx hd hne =>
  ⟨x, dx, _, rfl, upd_same, ⟨w, rfl, h1, h60⟩, fun H' e1 e2 => ⟨rfl, k x H' hx (fun b o hb => e1 b o (ne_of_none hb hx) (by rw [upd_ne (ne_of_none hb hx), upd_ne (ne_of_none hb hd)]; exact hb)) ⟨hav, ⟨h1, h60⟩, dx, e2⟩⟩⟩
def t_l_order_b1 (K : PySem.W.Frag) (C : Cl) : TS := (tSeq (tAsg (tCall (sp_l_draw K C) [] C8.E0 (tCons (tOp oMul (tOp oAdd (tVar 0) (tOp oMul (tC (.int 7)) (tVar 4))) (tOp oAdd (tVar 4) (tC (.int 3)))) (tCons (tC (.int 10)) (tCons (tVar 1) tNil)))) (gName 5)) (tSeq (tAsg (tCall (sp_l_draw K C) [] C8.E0 (tCons (tOp oMul (tOp oAdd (tVar 0) (tOp oMul (tC (.int 5)) (tVar 4))) (tOp oAdd (tVar 4) (tC (.int 5)))) (tCons (tC (.int 11)) (tCons (tVar 1) tNil)))) (gName 6)) (tAsg (tTup (tCons (tOp (rIxL K) (tVar 2) (tVar 6)) (tCons (tOp (rIxL K) (tVar 2) (tVar 5)) tNil))) (gTup K 2 (gCons (gSub (tVar 2) (tVar 5) rSetL) (gCons (gSub (tVar 2) (tVar 6) rSetL) gNil))))))
def t_l_order (K : PySem.W.Frag) (C : Cl) : TS := (tSeq (tAsg (tLstRg (tRg1 (tVar 1))) (gName 2)) (tSeq (tAsg (tOp (rIxT K) (tTup (tCons (tVar 1) (tCons (tC (.int 3)) (tCons (tC (.int 1)) (tCons (tC (.int 0)) tNil))))) (tCall (sp_l_draw K C) [] C8.E0 (tCons (tVar 0) (tCons (tC (.int 9)) (tCons (tC (.int 4)) tNil))))) (gName 3)) (tSeq (tFor (iRng1 (tCons (tVar 3) tNil)) (gName 4) (t_l_order_b1 K C)) (tRet (tVar 2)))))
abbrev n_l_order : List Str := ["_law_cell", "_law_many_here", "_law_order_here", "_law_swaps", "_law_k", "_law_one", "_law_other"]
def t_l_many (K : PySem.W.Frag) (C : Cl) : TS := (tRet (tOp oAdd (tOp oAdd (tC (.int 1)) (tCall (sp_l_draw K C) [] C8.E0 (tCons (tVar 0) (tCons (tVar 1) (tCons (tC (.int 12)) tNil))))) (tOp oMul (tOp oMul (tC (.int 4)) (tCall (sp_l_draw K C) [] C8.E0 (tCons (tVar 0) (tCons (tOp oAdd (tVar 1) (tC (.int 1))) (tCons (tC (.int 13)) tNil))))) (tOp oDiv (tCall (sp_l_draw K C) [] C8.E0 (tCons (tVar 0) (tCons (tOp oAdd (tVar 1) (tC (.int 2))) (tCons (tC (.int 6)) tNil)))) (tC (.int 5))))))
abbrev n_l_many : List Str := ["_law_cell", "_law_k"]
theorem at_four {x0 x1 x2 x3 : Nat} {b d : Nat} (hd : d < (4 : Int).toNat) (h : x0 ≤ b ∧ x1 ≤ b ∧ x2 ≤ b ∧ x3 ≤ b) : ∃ s : Nat, s ≤ b ∧ atI [vN x0, vN x1, vN x2, vN x3] (d : Int) = some (vN s) := by
  have : d = 0 ∨ d = 1 ∨ d = 2 ∨ d = 3 := by omega
  rcases this with rfl | rfl | rfl | rfl
  · exact ⟨x0, h.1, rfl⟩
  · exact ⟨x1, h.2.1, rfl⟩
  · exact ⟨x2, h.2.2.1, rfl⟩
  · exact ⟨x3, h.2.2.2, rfl⟩
theorem rd_l_order (h : sp_l_order K C vs H Q E) : t_l_order K C { nx := fun _ H' => Q .non H', rt := Q } (start n_l_order vs) H := by
  obtain ⟨c, n, rfl, h1, h60, kk⟩ := h
  show t_l_order K C _ [some (.int c), some (vN n), none, none, none, none, none] H
  unfold t_l_order
  walk_at "go"
  rename_i l H1 hl s1 hl1 t H2 ht s2 ht2 d H3 hd s3
  obtain ⟨s, hsb, hat⟩ := at_four (x0 := n) (x1 := 3) (x2 := 1) (x3 := 0) (b := 60) hd (by omega)
  refine c_ixT (v := vN s) (by walk_at "st") hat ?_
  walk_at "go"
  refine l_for1 s rfl (by omega) (fun i σ' H' => ∃ x4 x5 x6 os, σ' = [some (.int c), some (vN n), some (.ref l), some (vN s), x4, x5, x6] ∧ Same H H' ∧ IsP n os ∧ H' l = some (.lst (os.map vN))) ⟨_, _, _, _, rfl, by walk_at "sm", isP_range n, by walk_at "hp"⟩ ?_ ?_
  · rintro i _ H4 hi ⟨x4, x5, x6, os, rfl, s4, hp, hl4⟩
    have hlen := hp.1
    unfold t_l_order_b1
    walk_at "go"
    refine ⟨_, _, _, _, rfl, by walk_at "sm", isP_swap hp (i := ?_) (j := ?_) ?_ ?_, by assumption⟩ <;> omega
  · rintro _ H4 ⟨x4, x5, x6, os, rfl, s4, hp, hl4⟩
    walk_at "go"
    exact kk os hp _ _ hl s4 hl4
theorem rd_l_many (h : sp_l_many K C vs H Q E) : t_l_many K C { nx := fun _ H' => Q .non H', rt := Q } (start n_l_many vs) H := by
  obtain ⟨c, k, rfl, h1, h60, kk⟩ := h
  show t_l_many K C _ [some (.int c), some (.int k)] H
  unfold t_l_many
  walk_at "go"
  rename_i d1 H1 hd1 s1 d2 H2 hd2 s2 d3 H3 hd3 s3
  have : d3 / 5 = 0 ∨ d3 / 5 = 1 := by omega
  have e : (1 : Int) + (d1 : Int) + 4 * (d2 : Int) * ((d3 : Int) / 5) = ((1 + d1 + 4 * d2 * (d3 / 5) : Nat) : Int) := by simp
  rw [e]
  refine kk _ (by omega) ?_ _ (by walk_at "sm")
  rcases this with h | h <;> rw [h] <;> omega
def t_l_word_b1 (K : PySem.W.Frag) (C : Cl) : TS := (tSeq (tAsg (tCall (sp_l_draw K C) [] C8.E0 (tCons (tOp oMul (tOp oAdd (tVar 0) (tOp oMul (tC (.int 3)) (tVar 4))) (tOp oAdd (tVar 4) (tC (.int 7)))) (tCons (tC (.int 13)) (tCons (tC (.int 6)) tNil)))) (gName 5)) (tAug 2 (tIf (tTest (tOp oLt (tVar 5) (tOp (rIxT K) (tTup (tCons (tC (.int 3)) (tCons (tC (.int 3)) (tCons (tC (.int 5)) (tCons (tC (.int 1)) tNil))))) (tVar 3)))) (tC (.str "a")) (tC (.str "b"))) rAddS))
def t_l_word (K : PySem.W.Frag) (C : Cl) : TS := (tSeq (tAsg (tC (.str "")) (gName 2)) (tSeq (tAsg (tCall (sp_l_draw K C) [] C8.E0 (tCons (tVar 0) (tCons (tC (.int 12)) (tCons (tC (.int 4)) tNil)))) (gName 3)) (tSeq (tFor (iRng1 (tCons (tVar 1) tNil)) (gName 4) (t_l_word_b1 K C)) (tRet (tVar 2)))))
abbrev n_l_word : List Str := ["_law_cell", "_law_many_here", "_law_word_here", "_law_kind", "_law_k", "_law_sign"]
theorem rd_l_word (h : sp_l_word K C vs H Q E) : t_l_word K C { nx := fun _ H' => Q .non H', rt := Q } (start n_l_word vs) H := by
  obtain ⟨c, n, rfl, h60, kk⟩ := h
  show t_l_word K C _ [some (.int c), some (vN n), none, none, none, none] H
  unfold t_l_word
  walk_at "go"
  rename_i kd H1 hkd s1
  refine l_for1 n rfl (by omega) (fun i σ' H' => ∃ x4 x5 w, σ' = [some (.int c), some (vN n), some (.str (wS w)), some (vN kd), x4, x5] ∧ Same H H' ∧ w.length = i) ⟨_, _, [], rfl, s1, rfl⟩ ?_ ?_
  · rintro i _ H4 hi ⟨x4, x5, w, rfl, s4, hw⟩
    have hl := wS_len w
    unfold t_l_word_b1
    walk_at "go"
    rename_i sn H5 hsn s5 t H6 ht s6 ht6
    obtain ⟨s, hsb, hat⟩ := at_four (x0 := 3) (x1 := 3) (x2 := 5) (x3 := 1) (b := 5) hkd (by omega)
    refine c_ixT (v := vN s) (by walk_at "st") hat ?_
    walk_at "go"
    refine if_d (fun h => ?_) (fun h => ?_)
    · walk_at "go"
      refine c_addS (by rw [hl]; show _ + 1 ≤ _; omega) ?_
      walk_at "go"
      exact ⟨_, _, w ++ [true], by rw [← wS_snoc]; rfl, by walk_at "sm", by simp [hw]⟩
    · walk_at "go"
      refine c_addS (by rw [hl]; show _ + 1 ≤ _; omega) ?_
      walk_at "go"
      exact ⟨_, _, w ++ [false], by rw [← wS_snoc]; rfl, by walk_at "sm", by simp [hw]⟩
  · rintro _ H4 ⟨x4, x5, w, rfl, s4, hw⟩
    walk_at "go"
    exact kk w hw _ s4
def t_l_riffled_b1 (K : PySem.W.Frag) (C : Cl) : TS := (tIfS (tTest (tOp rEq (tVar 5) (tC (.str "a")))) (tSeq (tDrop (tBM K "list" rAppend (tVar 4) (tCons (tOp (rIxL K) (tVar 2) (tC (.int 0))) tNil))) (tAsg (tSl (rSlL K) (tVar 2) (tPart (tC (.int 1))) tNoPart) (gName 2))) (tSeq (tDrop (tBM K "list" rAppend (tVar 4) (tCons (tOp (rIxL K) (tVar 3) (tC (.int 0))) tNil))) (tAsg (tSl (rSlL K) (tVar 3) (tPart (tC (.int 1))) tNoPart) (gName 3))))
def t_l_riffled (K : PySem.W.Frag) (C : Cl) : TS := (tSeq (tPar 2 3 (tCons (tSl (rSlL K) (tVar 0) tNoPart (tPart (tBM K "str" rCountS (tVar 1) (tCons (tC (.str "a")) tNil)))) (tCons (tSl (rSlL K) (tVar 0) (tPart (tBM K "str" rCountS (tVar 1) (tCons (tC (.str "a")) tNil))) tNoPart) tNil))) (tSeq (tAsg (tLst tNil) (gName 4)) (tSeq (tFor (iStr (tVar 1)) (gName 5) (t_l_riffled_b1 K C)) (tRet (tVar 4)))))
abbrev n_l_riffled : List Str := ["_law_order_here", "_law_word_here", "_law_upper", "_law_lower", "_law_made_here", "_law_sign"]
theorem rd_l_riffled (h : sp_l_riffled K C vs H Q E) : t_l_riffled K C { nx := fun _ H' => Q .non H', rt := Q } (start n_l_riffled vs) H := by
  obtain ⟨a, os, w, rfl, hs, hlen, h60, kk⟩ := h
  have hct := count_tf w
  show t_l_riffled K C _ [some (.ref a), some (.str (wS w)), none, none, none, none] H
  unfold t_l_riffled
  walk_at "go"
  rename_i u0 H1 hu0 s1 hu1 l0 H2 hl0 s2 hl2 m0 H3 hm0 s3 hm3
  refine l_forW (fun pre σ' H' => ∃ u l m y, σ' = [some (.ref a), some (.str (wS w)), some (.ref u), some (.ref l), some (.ref m), y] ∧ H m = none ∧ Same H H' ∧ H' u = some (.lst (((os.take (w.count true)).drop (pre.count true)).map vN)) ∧ H' l = some (.lst ((os.drop (w.count true + pre.count false)).map vN)) ∧ H' m = some (.lst ((pick (riffGo pre 0 (w.count true)) os).map vN)) ∧ u ≠ m ∧ l ≠ m)
    ⟨_, _, _, _, rfl, by walk_at "fr", by walk_at "sm", by walk_at "hp", by walk_at "hp", by walk_at "hp", ne_old hu1 (none_of_same hm0 s2), ne_old hl2 hm0⟩ ?_ ?_
  · rintro pre x post _ H' e ⟨u, l, m, y, rfl, hm', hs', hu', hl', hm2, ne1, ne2⟩
    have hpl : (pick (riffGo pre 0 (w.count true)) os).length = pre.length := by rw [pick_length, riffGo_len]
    have hpw : pre.length ≤ w.length := by rw [e]; simp
    have hsn := riffGo_snoc pre x 0 (w.count true)
    have hcp := count_tf pre
    have c1 := congrArg (List.count true) e
    have c2 := congrArg (List.count false) e
    rw [List.count_append] at c1 c2
    have len1 : ((os.take (w.count true)).drop (pre.count true)).length = w.count true - pre.count true := by simp; omega
    have len2 : (os.drop (w.count true + pre.count false)).length = os.length - (w.count true + pre.count false) := by simp
    unfold t_l_riffled_b1
    walk_at "go"
    refine if_2 (fun h => ?_) (fun h => ?_) <;> subst h
    · rw [List.count_cons_self] at c1
      have g1 : ((os.take (w.count true)).drop (pre.count true)).getD 0 0 = os.getD (pre.count true) 0 := by
        rw [getD_of_lt (by omega), getD_of_lt (by omega)]
        simp
      generalize hU : (os.take (w.count true)).drop (pre.count true) = up at *
      have hd : up.drop 1 = (os.take (w.count true)).drop (pre.count true + 1) := by rw [← hU, List.drop_drop]
      walk_at "go"
      rw [(count_true_snoc pre).1, (count_true_snoc pre).2, hsn]
      refine ⟨_, _, _, _, rfl, hm', by walk_at "sm", by rw [← hd]; assumption, by walk_at "hp", ?_, by walk_at "ne", by walk_at "ne"⟩
      have hm3 : ∀ H2 : Hp, H2 m = some (.lst ((pick (riffGo pre 0 (w.count true)) os).map vN ++ [vN (up.getD 0 0)])) → H2 m = some (.lst ((pick (riffGo pre 0 (w.count true) ++ [if true = true then 0 + pre.count true else w.count true + pre.count false]) os).map vN)) := fun H2 z => by
        rw [z, g1, if_pos rfl, Nat.zero_add]
        simp [pick]
      exact hm3 _ (by walk_at "hp")
    · rw [List.count_cons_self] at c2
      have g1 : (os.drop (w.count true + pre.count false)).getD 0 0 = os.getD (w.count true + pre.count false) 0 := by
        rw [getD_of_lt (by omega), getD_of_lt (by omega)]
        simp
      generalize hU : os.drop (w.count true + pre.count false) = up at *
      have hd : up.drop 1 = os.drop (w.count true + (pre.count false + 1)) := by rw [← hU, List.drop_drop]; rfl
      walk_at "go"
      rw [(count_false_snoc pre).1, (count_false_snoc pre).2, hsn]
      refine ⟨_, _, _, _, rfl, hm', by walk_at "sm", by walk_at "hp", by rw [← hd]; assumption, ?_, by walk_at "ne", by walk_at "ne"⟩
      have hm3 : ∀ H2 : Hp, H2 m = some (.lst ((pick (riffGo pre 0 (w.count true)) os).map vN ++ [vN (up.getD 0 0)])) → H2 m = some (.lst ((pick (riffGo pre 0 (w.count true) ++ [if false = true then 0 + pre.count true else w.count true + pre.count false]) os).map vN)) := fun H2 z => by
        rw [z, g1]
        simp [pick]
      exact hm3 _ (by walk_at "hp")
  · rintro _ H' ⟨u, l, m, y, rfl, hm', hs', hu', hl', hm2, ne1, ne2⟩
    walk_at "go"
    exact kk _ _ hm' hs' hm2
end Rf

set_option Elab.async false
set_option linter.all false
set_option maxRecDepth 100000
set_option maxHeartbeats 4000000
namespace Rf
open PySem PySem.Spec L2 Rm
local macro_rules | `(tactic| walk_at "ne") => `(tactic| first | assumption | (apply Ne.symm; assumption) | exact ne_new (by walk_at "hp") (by assumption) | exact ne_old (by walk_at "hp") (by assumption))
local macro_rules | `(tactic| walk_at "hp") => `(tactic| first | assumption | exact get_same (by assumption) (by walk_at "hp") | exact get_but (by assumption) (by walk_at "ne") (by walk_at "hp"))
local macro_rules | `(tactic| walk_at "sl") => `(tactic| first | assumption | exact sl_of (by assumption) | exact sl_same (by assumption) (by walk_at "sl") | exact sl_but (by assumption) (by walk_at "ne") (by walk_at "sl"))
local macro_rules | `(tactic| walk_at "st") => `(tactic| first | assumption | exact st_of (by assumption) | exact st_same (by assumption) (by walk_at "st") | exact st_but (by assumption) (by walk_at "ne") (by walk_at "st"))
local macro_rules | `(tactic| walk_at "sm") => `(tactic| first | assumption | exact Same.refl _ | exact same_tr (by assumption) (by walk_at "sm") | exact same_bt (by assumption) (by walk_at "fr") (by walk_at "sm"))
local macro_rules | `(tactic| walk_at "fr") => `(tactic| first | assumption | exact none_of_same (by assumption) (by walk_at "sm"))
local macro_rules | `(tactic| walk_at "dec") => `(tactic| first | rfl | assumption | omega | (simp only [decide_eq_true_eq, decide_eq_false_iff_not, Bool.not_eq_true', Bool.not_eq_false', Bool.not_true, Bool.not_false, Bool.and_eq_true, Bool.or_eq_true, Bool.and_eq_false_iff, Bool.or_eq_false_iff, Bool.not_eq_true, Bool.not_eq_false] <;> first | omega | assumption | rfl | (constructor <;> omega)))
local macro_rules | `(tactic| walk_at "len") => `(tactic| first | decide | omega | (simp only [List.length_append, List.length_cons, List.length_nil, List.length_map, List.length_range, List.length_reverse, List.length_set, List.length_take, List.length_drop] <;> omega) | (simp <;> omega))
local macro_rules | `(tactic| walk_at "s") => `(tactic| first
  | (with_reducible refine c_seq ?_)
  | (with_reducible refine c_asg ?_)
  | (with_reducible refine c_op ?_)
  | ((with_reducible refine' c_var ?hv ?_); (case hv => exact rfl))
  | (with_reducible refine c_c ?_)
  | (with_reducible refine c_cons ?_)
  | (with_reducible refine c_nil ?_)
  | (with_reducible refine c_and1 ?_)
  | (with_reducible refine c_shr1 ?_)
  | (with_reducible refine c_i0 ?_)
  | ((with_reducible refine' c_mul ?hv ?_); (case hv => omega))
  | ((with_reducible refine' c_div ?hv ?_); (case hv => omega))
  | ((with_reducible refine' c_mod ?hv ?_); (case hv => omega))
  | (with_reducible refine c_un ?_)
  | (with_reducible refine c_iU ?_)
  | (with_reducible refine c_call ?_)
  | (with_reducible refine c_tTest ?_)
  | (with_reducible refine c_tB ?_)
  | (with_reducible refine c_kB ?_)
  | (with_reducible refine c_ifS ?_)
  | (with_reducible refine c_gn0 ?_)
  | (with_reducible refine c_gn1 ?_)
  | (with_reducible refine c_gn2 ?_)
  | (with_reducible refine c_gn3 ?_)
  | (with_reducible refine c_gn4 ?_)
  | (with_reducible refine c_gn5 ?_)
  | (with_reducible refine c_gn6 ?_)
  | (with_reducible refine c_gn7 ?_)
  | (with_reducible refine c_gn8 ?_)
  | (with_reducible refine c_gnS ?_)
  | (with_reducible refine c_eqI ?_)
  | (with_reducible refine c_neI ?_)
  | (with_reducible refine c_eqS ?_)
  | (with_reducible refine c_neS ?_)
  | (with_reducible refine c_eqB ?_)
  | (with_reducible refine c_neB ?_)
  | (with_reducible refine c_and ?_)
  | (with_reducible refine c_or ?_)
  | (with_reducible refine c_not ?_)
  | (with_reducible refine c_andV ?_)
  | (with_reducible refine c_orV ?_)
  | (with_reducible refine c_notV ?_)
  | (with_reducible refine c_ifE ?_)
  | (with_reducible refine c_tYes ?_)
  | (with_reducible refine c_chain ?_)
  | ((with_reducible refine' c_chLe ?hv ?_ ?hm); (case hv => exact ⟨rfl, rfl⟩); (case hm => exact fun R R' hh q => hh _ _ q))
  | ((with_reducible refine' c_chLe ?hv ?_ ?hm); (case hv => exact ⟨_, rfl, rfl, rfl⟩); (case hm => exact fun R R' hh ⟨v, e, q⟩ => ⟨v, e, hh _ _ q⟩))
  | (with_reducible refine c_tup ?_)
  | (with_reducible refine c_lst ?_)
  | ((with_reducible refine' c_kTup ?hv ?_); (case hv => walk_at "len"); intro _ _ _ _ _)
  | ((with_reducible refine' c_kLst ?hv ?_); (case hv => walk_at "len"); intro _ _ _ _ _)
  | ((with_reducible refine' c_ixL ?hv ?ha ?_); (case hv => walk_at "sl"); (case ha => walk_at "at"))
  | ((with_reducible refine' c_ixT ?hv ?ha ?_); (case hv => walk_at "st"); (case ha => walk_at "at"))
  | ((with_reducible refine' c_cat ?hv ?ha ?hz ?_); (case hv => walk_at "hp"); (case ha => walk_at "hp"); (case hz => walk_at "len"); intro _ _ _ _ _)
  | ((with_reducible refine' c_addS ?hv ?_); (case hv => walk_at "len"))
  | (with_reducible refine c_sl ?_)
  | (with_reducible refine c_noP ?_)
  | (with_reducible refine c_part ?_)
  | (with_reducible refine c_kPart ?_)
  | ((with_reducible refine' c_slL ?hv ?_); (case hv => walk_at "sl"); intro _ _ _ _ _)
  | ((with_reducible refine' c_slX ?hv ?_); (case hv => walk_at "len"))
  | (with_reducible refine c_rev ?_)
  | ((with_reducible refine' c_kRev ?hv ?_); (case hv => walk_at "sl"); intro _ _ _ _ _)
  | (with_reducible refine c_CB ?_)
  | ((with_reducible refine' c_lenM ?hv ?_); (case hv => walk_at "sl"))
  | ((with_reducible refine' c_lenL ?hv ?_); (case hv => walk_at "sl"))
  | ((with_reducible refine' c_lenS ?hv ?_); (case hv => walk_at "len"))
  | ((with_reducible refine' c_listOf ?hv ?_); (case hv => walk_at "sl"); intro _ _ _ _ _)
  | (with_reducible refine c_min2 ?_)
  | (with_reducible refine c_listRg ?_)
  | (with_reducible refine c_rg1 ?_)
  | (with_reducible refine c_kRg1 ?_)
  | (with_reducible refine c_rg2 ?_)
  | (with_reducible refine c_kRg2 ?_)
  | ((with_reducible refine' c_kRgN ?hv ?_); (case hv => omega); intro _ _ _ _ _)
  | ((with_reducible refine' c_kRgN2 ?hv ?ha ?_); (case hv => omega); (case ha => omega); intro _ _ _ _ _)
  | ((with_reducible refine' c_kRg ?hv ?ha ?_); (case hv => omega); (case ha => omega); intro _ _ _ _ _)
  | (with_reducible refine c_lenSet ?_)
  | (with_reducible refine c_meth ?_)
  | (with_reducible refine c_methA ?_)
  | (with_reducible refine c_make ?_)
  | ((with_reducible refine c_makeO ?_); intro _ _ _ _ _ _)
  | (with_reducible refine c_fld ?_)
  | (with_reducible refine c_bm ?_)
  | (with_reducible refine c_bm0 ?_)
  | ((with_reducible refine' c_kBMl ?hv ?_); (case hv => walk_at "sl"))
  | ((with_reducible refine' c_kBM0l ?hv ?_); (case hv => walk_at "sl"))
  | (with_reducible refine c_kBMs ?_)
  | (with_reducible refine c_kBM0s ?_)
  | ((with_reducible refine' c_append ?hv ?hz ?_); (case hv => walk_at "hp"); (case hz => walk_at "len"); intro _ _ _)
  | ((with_reducible refine' c_extend ?hv ?ha ?hz ?_); (case hv => walk_at "hp"); (case ha => walk_at "hp"); (case hz => walk_at "len"); intro _ _ _)
  | ((with_reducible refine' c_reverse ?hv ?_); (case hv => walk_at "hp"); intro _ _ _)
  | ((with_reducible refine' c_clear ?hv ?_); (case hv => walk_at "hp"); intro _ _ _)
  | ((with_reducible refine' c_gtup ?hv ?ha ?_); (case hv => walk_at "st"); (case ha => exact rfl))
  | (with_reducible refine c_gnil ?_)
  | (with_reducible refine c_gcons ?_)
  | (with_reducible refine c_gsub ?_)
  | (with_reducible refine c_next ?_)
  | (with_reducible refine c_par ?_)
  | (with_reducible refine c_kPar ?_)
  | ((with_reducible refine' c_aug ?hv ?_); (case hv => exact rfl))
  | (with_reducible refine c_ipI ?_)
  | (with_reducible refine c_drop ?_)
  | (with_reducible refine c_ret ?_)
  | (with_reducible refine c_retN ?_)
  | (with_reducible refine c_sfld ?_)
  | (with_reducible refine c_forL ?_)
  | (with_reducible refine c_for1 ?_)
  | (with_reducible refine c_for2 ?_)
  | (with_reducible refine c_forS ?_)
  | (with_reducible refine c_forRev ?_)
  | (with_reducible refine c_lcL ?_)
  | (with_reducible refine c_lc1 ?_)
  | (refine if_f (by walk_at "dec") ?_)
  | (refine if_t (by walk_at "dec") ?_)
  | walk_at "own")
local macro_rules | `(tactic| walk_at "go") => `(tactic| repeat walk_at "s")

local macro_rules | `(tactic| walk_at "kit") => `(tactic| first | exact kit_int_int | exact kit_int_bool | exact kit_int_str | exact kit_int_list | exact kit_list_list | exact kit_list_int | exact kit_list_bool | exact kit_str_str | exact kit_str_int | exact kit_str_list | exact kit_bool_bool | exact kit_bool_int | exact kit_bool_list)
local macro_rules | `(tactic| walk_at "own") => `(tactic| first
  | ((with_reducible refine' c_isiI ?h3 ?_); (case h3 => walk_at "kit"))
  | ((with_reducible refine' c_isiL ?h1 ?h3 ?_); (case h1 => walk_at "sl"); (case h3 => walk_at "kit"))
  | ((with_reducible refine' c_isiS ?h3 ?_); (case h3 => walk_at "kit"))
  | ((with_reducible refine' c_isiB ?h3 ?_); (case h3 => walk_at "kit"))
  | (with_reducible refine c_within ?_))
local macro_rules | `(tactic| walk_at "tn") => `(tactic| first | exact tn_nat _ | exact tn_add _ _ | exact tn_sub1 _ (by omega) | exact tn_sub _ _ (by omega) | exact rfl)
local macro_rules | `(tactic| walk_at "at") => `(tactic| first | exact at_DN (by walk_at "tn") (by omega) (by omega) | exact at_DI (by walk_at "tn") (by omega) (by omega) | rfl | assumption | exact at_map (by assumption) (by first | rfl | omega))


local macro_rules | `(tactic| walk_at "own") => `(tactic| first
  | ((with_reducible refine' c_cell_at ?h1 ?h2 ?_); (case h1 => walk_at "sl"); (case h2 => omega))
  | ((with_reducible refine' c_draw ?h1 ?h2 ?_); (case h1 => omega); (case h2 => omega); intro _ _)
  | ((with_reducible refine' c_inN ?h1 ?_); (case h1 => walk_at "sl"))
  | ((with_reducible refine' c_ninN ?h1 ?_); (case h1 => walk_at "sl"))
  | ((with_reducible refine' c_eqLst leaf_nat ?h1 ?h2 ?_); (case h1 => walk_at "sl"); (case h2 => walk_at "sl"))
  | ((with_reducible refine' c_neLst leaf_nat ?h1 ?h2 ?_); (case h1 => walk_at "sl"); (case h2 => walk_at "sl")))

local macro_rules | `(tactic| walk_at "own") => `(tactic| first
  | ((with_reducible refine' c_drawB ?h1 ?h2 ?_); (case h1 => omega); (case h2 => omega); intro _ _ _ _)
  | (with_reducible refine c_dnew ?_; intro _ _ _ _ _)
  | (with_reducible refine c_dget ?_)
  | (with_reducible refine c_dput ?_)
  | (with_reducible refine c_eqSg ?_)
  | (with_reducible refine c_countW ?_)
  | ((with_reducible refine' c_stripW ?h1 ?_); (case h1 => omega))
  | ((with_reducible refine' c_setLN ?h1 ?h2 ?_); (case h1 => walk_at "hp"); (case h2 => walk_at "len"); intro _ _ _))
local macro_rules | `(tactic| walk_at "s") => `(tactic| first
  | ((with_reducible refine' c_slTk ?h1 ?h2 ?_); (case h1 => walk_at "sl"); (case h2 => walk_at "len"); intro _ _ _ _ _)
  | ((with_reducible refine' c_slD1 ?h1 ?h2 ?_); (case h1 => walk_at "sl"); (case h2 => walk_at "len"); intro _ _ _ _ _)
  | ((with_reducible refine' c_slDr ?h1 ?h2 ?_); (case h1 => walk_at "sl"); (case h2 => walk_at "len"); intro _ _ _ _ _))
local macro_rules | `(tactic| walk_at "at") => `(tactic| exact at_D0 (by omega))

local macro_rules | `(tactic| walk_at "own") => `(tactic| first
  | ((with_reducible refine' c_many ?h1 ?_); (case h1 => omega); intro _ _ _ _ _)
  | ((with_reducible refine' c_order ?h1 ?_); (case h1 => omega); intro _ _ _ _ _ _ _)
  | ((with_reducible refine' c_word ?h1 ?_); (case h1 => omega); intro _ _ _ _))

variable {K : PySem.W.Frag} {C : Cl} {vs : List V} {H : Hp} {Q : VK} {E : XK}
def t_p_done_all_b1 (K : PySem.W.Frag) (C : Cl) : TS := (tAsg (tMethA C "done" (sp_done K C) C8.E0 (tVar 3) (tCons (tVar 2) tNil)) (gName 2))
def t_p_done_all (K : PySem.W.Frag) (C : Cl) : TS := (tSeq (tDrop (tCall (sp_p_check_moves K C) [] C8.E0 (tCons (tVar 0) tNil))) (tSeq (tDrop (tCall (sp_p_check_order K C) [] C8.E0 (tCons (tVar 1) tNil))) (tSeq (tAsg (tCB (rListOf K) (tCons (tVar 1) tNil)) (gName 2)) (tSeq (tFor (iList K (tVar 0)) (gName 3) (t_p_done_all_b1 K C)) (tRet (tVar 2))))))
abbrev n_p_done_all : List Str := ["moves", "order", "found", "move"]
theorem rd_p_done_all (F : CF K C) (h : sp_p_done_all K C vs H Q E) : t_p_done_all K C { nx := fun _ H' => Q .non H', rt := Q } (start n_p_done_all vs) H := by
  obtain ⟨a, b, ms, os, rfl, hm, hs, ho, hfit, kk⟩ := h
  show t_p_done_all K C _ [some (.ref a), some (.ref b), none, none] H
  unfold t_p_done_all
  walk_at "go"
  refine ⟨a, ms, rfl, hm, ?_⟩
  walk_at "go"
  refine c_check_order hs ho ?_
  walk_at "go"
  rename_i l0 H1 hl0 s1 hl1
  obtain ⟨zs, hz, rfl, hmv⟩ := hm
  refine l_forM (sl_same s1 hz) (fun pre σ' H' => ∃ l x3 ps, σ' = [some (.ref a), some (.ref b), some (.ref l), x3] ∧ H l = none ∧ Same H H' ∧ H' l = some (.lst (ps.map vN)) ∧ Ord ps ∧ ps.length = os.length ∧ doneAll (pre.map (·.2)) os = ps) ⟨_, _, _, rfl, hl0, s1, hl1, ho, rfl, rfl⟩ (fun pre post σ' H' _ ⟨_, _, _, _, _, sH, _⟩ => sl_same sH hz) ?_ ?_
  · rintro pre z post _ H' e ⟨l, x3, ps, rfl, hl, sH, hl2, hop, hpl, hd⟩
    have hzm : z ∈ zs := by rw [e]; simp
    have hmz := mv_same sH (hmv z hzm)
    have hfz : z.2.Fits ps.length := by rw [hpl]; exact hfit _ (List.mem_map.mpr ⟨z, hzm, rfl⟩)
    unfold t_p_done_all_b1
    walk_at "go"
    refine c_kDone hmz ?_
    walk_at "go"
    refine c_done hmz (sl_of hl2) hop hfz fun q H2 hq s2 hq2 => ?_
    walk_at "go"
    have hod := ord_done hmz.2.1 hfz hop
    have hdl : (doneF z.2 ps).length = ps.length := by unfold doneF; rw [pick_length, came_len hmz.2.1 hfz]
    refine ⟨_, _, _, rfl, none_of_same hq sH, sH.trans s2, hq2, hod, by omega, ?_⟩
    unfold doneAll at hd ⊢
    rw [List.map_append, List.foldl_append, hd]
    rfl
  · rintro _ H' ⟨l, x3, ps, rfl, hl, sH, hl2, hop, hpl, hd⟩
    walk_at "go"
    rw [← hd] at hl2
    exact kk _ _ hl sH hl2
end Rf

set_option Elab.async false
set_option linter.all false
set_option maxRecDepth 100000
set_option maxHeartbeats 4000000
namespace Rf
open PySem PySem.Spec L2 Rm
local macro_rules | `(tactic| walk_at "ne") => `(tactic| first | assumption | (apply Ne.symm; assumption) | exact ne_new (by walk_at "hp") (by assumption) | exact ne_old (by walk_at "hp") (by assumption))
local macro_rules | `(tactic| walk_at "hp") => `(tactic| first | assumption | exact get_same (by assumption) (by walk_at "hp") | exact get_but (by assumption) (by walk_at "ne") (by walk_at "hp"))
local macro_rules | `(tactic| walk_at "sl") => `(tactic| first | assumption | exact sl_of (by assumption) | exact sl_same (by assumption) (by walk_at "sl") | exact sl_but (by assumption) (by walk_at "ne") (by walk_at "sl"))
local macro_rules | `(tactic| walk_at "st") => `(tactic| first | assumption | exact st_of (by assumption) | exact st_same (by assumption) (by walk_at "st") | exact st_but (by assumption) (by walk_at "ne") (by walk_at "st"))
local macro_rules | `(tactic| walk_at "sm") => `(tactic| first | assumption | exact Same.refl _ | exact same_tr (by assumption) (by walk_at "sm") | exact same_bt (by assumption) (by walk_at "fr") (by walk_at "sm"))
local macro_rules | `(tactic| walk_at "fr") => `(tactic| first | assumption | exact none_of_same (by assumption) (by walk_at "sm"))
local macro_rules | `(tactic| walk_at "dec") => `(tactic| first | rfl | assumption | omega | (simp only [decide_eq_true_eq, decide_eq_false_iff_not, Bool.not_eq_true', Bool.not_eq_false', Bool.not_true, Bool.not_false, Bool.and_eq_true, Bool.or_eq_true, Bool.and_eq_false_iff, Bool.or_eq_false_iff, Bool.not_eq_true, Bool.not_eq_false] <;> first | omega | assumption | rfl | (constructor <;> omega)))
local macro_rules | `(tactic| walk_at "len") => `(tactic| first | decide | omega | (simp only [List.length_append, List.length_cons, List.length_nil, List.length_map, List.length_range, List.length_reverse, List.length_set, List.length_take, List.length_drop] <;> omega) | (simp <;> omega))
local macro_rules | `(tactic| walk_at "s") => `(tactic| first
  | (with_reducible refine c_seq ?_)
  | (with_reducible refine c_asg ?_)
  | (with_reducible refine c_op ?_)
  | ((with_reducible refine' c_var ?hv ?_); (case hv => exact rfl))
  | (with_reducible refine c_c ?_)
  | (with_reducible refine c_cons ?_)
  | (with_reducible refine c_nil ?_)
  | (with_reducible refine c_and1 ?_)
  | (with_reducible refine c_shr1 ?_)
  | (with_reducible refine c_i0 ?_)
  | ((with_reducible refine' c_mul ?hv ?_); (case hv => omega))
  | ((with_reducible refine' c_div ?hv ?_); (case hv => omega))
  | ((with_reducible refine' c_mod ?hv ?_); (case hv => omega))
  | (with_reducible refine c_un ?_)
  | (with_reducible refine c_iU ?_)
  | (with_reducible refine c_call ?_)
  | (with_reducible refine c_tTest ?_)
  | (with_reducible refine c_tB ?_)
  | (with_reducible refine c_kB ?_)
  | (with_reducible refine c_ifS ?_)
  | (with_reducible refine c_gn0 ?_)
  | (with_reducible refine c_gn1 ?_)
  | (with_reducible refine c_gn2 ?_)
  | (with_reducible refine c_gn3 ?_)
  | (with_reducible refine c_gn4 ?_)
  | (with_reducible refine c_gn5 ?_)
  | (with_reducible refine c_gn6 ?_)
  | (with_reducible refine c_gn7 ?_)
  | (with_reducible refine c_gn8 ?_)
  | (with_reducible refine c_gnS ?_)
  | (with_reducible refine c_eqI ?_)
  | (with_reducible refine c_neI ?_)
  | (with_reducible refine c_eqS ?_)
  | (with_reducible refine c_neS ?_)
  | (with_reducible refine c_eqB ?_)
  | (with_reducible refine c_neB ?_)
  | (with_reducible refine c_and ?_)
  | (with_reducible refine c_or ?_)
  | (with_reducible refine c_not ?_)
  | (with_reducible refine c_andV ?_)
  | (with_reducible refine c_orV ?_)
  | (with_reducible refine c_notV ?_)
  | (with_reducible refine c_ifE ?_)
  | (with_reducible refine c_tYes ?_)
  | (with_reducible refine c_chain ?_)
  | ((with_reducible refine' c_chLe ?hv ?_ ?hm); (case hv => exact ⟨rfl, rfl⟩); (case hm => exact fun R R' hh q => hh _ _ q))
  | ((with_reducible refine' c_chLe ?hv ?_ ?hm); (case hv => exact ⟨_, rfl, rfl, rfl⟩); (case hm => exact fun R R' hh ⟨v, e, q⟩ => ⟨v, e, hh _ _ q⟩))
  | (with_reducible refine c_tup ?_)
  | (with_reducible refine c_lst ?_)
  | ((with_reducible refine' c_kTup ?hv ?_); (case hv => walk_at "len"); intro _ _ _ _ _)
  | ((with_reducible refine' c_kLst ?hv ?_); (case hv => walk_at "len"); intro _ _ _ _ _)
  | ((with_reducible refine' c_ixL ?hv ?ha ?_); (case hv => walk_at "sl"); (case ha => walk_at "at"))
  | ((with_reducible refine' c_ixT ?hv ?ha ?_); (case hv => walk_at "st"); (case ha => walk_at "at"))
  | ((with_reducible refine' c_cat ?hv ?ha ?hz ?_); (case hv => walk_at "hp"); (case ha => walk_at "hp"); (case hz => walk_at "len"); intro _ _ _ _ _)
  | ((with_reducible refine' c_addS ?hv ?_); (case hv => walk_at "len"))
  | (with_reducible refine c_sl ?_)
  | (with_reducible refine c_noP ?_)
  | (with_reducible refine c_part ?_)
  | (with_reducible refine c_kPart ?_)
  | ((with_reducible refine' c_slL ?hv ?_); (case hv => walk_at "sl"); intro _ _ _ _ _)
  | ((with_reducible refine' c_slX ?hv ?_); (case hv => walk_at "len"))
  | (with_reducible refine c_rev ?_)
  | ((with_reducible refine' c_kRev ?hv ?_); (case hv => walk_at "sl"); intro _ _ _ _ _)
  | (with_reducible refine c_CB ?_)
  | ((with_reducible refine' c_lenM ?hv ?_); (case hv => walk_at "sl"))
  | ((with_reducible refine' c_lenL ?hv ?_); (case hv => walk_at "sl"))
  | ((with_reducible refine' c_lenS ?hv ?_); (case hv => walk_at "len"))
  | ((with_reducible refine' c_listOf ?hv ?_); (case hv => walk_at "sl"); intro _ _ _ _ _)
  | (with_reducible refine c_min2 ?_)
  | (with_reducible refine c_listRg ?_)
  | (with_reducible refine c_rg1 ?_)
  | (with_reducible refine c_kRg1 ?_)
  | (with_reducible refine c_rg2 ?_)
  | (with_reducible refine c_kRg2 ?_)
  | ((with_reducible refine' c_kRgN ?hv ?_); (case hv => omega); intro _ _ _ _ _)
  | ((with_reducible refine' c_kRgN2 ?hv ?ha ?_); (case hv => omega); (case ha => omega); intro _ _ _ _ _)
  | ((with_reducible refine' c_kRg ?hv ?ha ?_); (case hv => omega); (case ha => omega); intro _ _ _ _ _)
  | (with_reducible refine c_lenSet ?_)
  | (with_reducible refine c_meth ?_)
  | (with_reducible refine c_methA ?_)
  | (with_reducible refine c_make ?_)
  | ((with_reducible refine c_makeO ?_); intro _ _ _ _ _ _)
  | (with_reducible refine c_fld ?_)
  | (with_reducible refine c_bm ?_)
  | (with_reducible refine c_bm0 ?_)
  | ((with_reducible refine' c_kBMl ?hv ?_); (case hv => walk_at "sl"))
  | ((with_reducible refine' c_kBM0l ?hv ?_); (case hv => walk_at "sl"))
  | (with_reducible refine c_kBMs ?_)
  | (with_reducible refine c_kBM0s ?_)
  | ((with_reducible refine' c_append ?hv ?hz ?_); (case hv => walk_at "hp"); (case hz => walk_at "len"); intro _ _ _)
  | ((with_reducible refine' c_extend ?hv ?ha ?hz ?_); (case hv => walk_at "hp"); (case ha => walk_at "hp"); (case hz => walk_at "len"); intro _ _ _)
  | ((with_reducible refine' c_reverse ?hv ?_); (case hv => walk_at "hp"); intro _ _ _)
  | ((with_reducible refine' c_clear ?hv ?_); (case hv => walk_at "hp"); intro _ _ _)
  | ((with_reducible refine' c_gtup ?hv ?ha ?_); (case hv => walk_at "st"); (case ha => exact rfl))
  | (with_reducible refine c_gnil ?_)
  | (with_reducible refine c_gcons ?_)
  | (with_reducible refine c_gsub ?_)
  | (with_reducible refine c_next ?_)
  | (with_reducible refine c_par ?_)
  | (with_reducible refine c_kPar ?_)
  | ((with_reducible refine' c_aug ?hv ?_); (case hv => exact rfl))
  | (with_reducible refine c_ipI ?_)
  | (with_reducible refine c_drop ?_)
  | (with_reducible refine c_ret ?_)
  | (with_reducible refine c_retN ?_)
  | (with_reducible refine c_sfld ?_)
  | (with_reducible refine c_forL ?_)
  | (with_reducible refine c_for1 ?_)
  | (with_reducible refine c_for2 ?_)
  | (with_reducible refine c_forS ?_)
  | (with_reducible refine c_forRev ?_)
  | (with_reducible refine c_lcL ?_)
  | (with_reducible refine c_lc1 ?_)
  | (refine if_f (by walk_at "dec") ?_)
  | (refine if_t (by walk_at "dec") ?_)
  | walk_at "own")
local macro_rules | `(tactic| walk_at "go") => `(tactic| repeat walk_at "s")

local macro_rules | `(tactic| walk_at "kit") => `(tactic| first | exact kit_int_int | exact kit_int_bool | exact kit_int_str | exact kit_int_list | exact kit_list_list | exact kit_list_int | exact kit_list_bool | exact kit_str_str | exact kit_str_int | exact kit_str_list | exact kit_bool_bool | exact kit_bool_int | exact kit_bool_list)
local macro_rules | `(tactic| walk_at "own") => `(tactic| first
  | ((with_reducible refine' c_isiI ?h3 ?_); (case h3 => walk_at "kit"))
  | ((with_reducible refine' c_isiL ?h1 ?h3 ?_); (case h1 => walk_at "sl"); (case h3 => walk_at "kit"))
  | ((with_reducible refine' c_isiS ?h3 ?_); (case h3 => walk_at "kit"))
  | ((with_reducible refine' c_isiB ?h3 ?_); (case h3 => walk_at "kit"))
  | (with_reducible refine c_within ?_))
local macro_rules | `(tactic| walk_at "tn") => `(tactic| first | exact tn_nat _ | exact tn_add _ _ | exact tn_sub1 _ (by omega) | exact tn_sub _ _ (by omega) | exact rfl)
local macro_rules | `(tactic| walk_at "at") => `(tactic| first | exact at_DN (by walk_at "tn") (by omega) (by omega) | exact at_DI (by walk_at "tn") (by omega) (by omega) | rfl | assumption | exact at_map (by assumption) (by first | rfl | omega))


local macro_rules | `(tactic| walk_at "own") => `(tactic| first
  | ((with_reducible refine' c_cell_at ?h1 ?h2 ?_); (case h1 => walk_at "sl"); (case h2 => omega))
  | ((with_reducible refine' c_draw ?h1 ?h2 ?_); (case h1 => omega); (case h2 => omega); intro _ _)
  | ((with_reducible refine' c_inN ?h1 ?_); (case h1 => walk_at "sl"))
  | ((with_reducible refine' c_ninN ?h1 ?_); (case h1 => walk_at "sl"))
  | ((with_reducible refine' c_eqLst leaf_nat ?h1 ?h2 ?_); (case h1 => walk_at "sl"); (case h2 => walk_at "sl"))
  | ((with_reducible refine' c_neLst leaf_nat ?h1 ?h2 ?_); (case h1 => walk_at "sl"); (case h2 => walk_at "sl")))

local macro_rules | `(tactic| walk_at "own") => `(tactic| first
  | ((with_reducible refine' c_drawB ?h1 ?h2 ?_); (case h1 => omega); (case h2 => omega); intro _ _ _ _)
  | (with_reducible refine c_dnew ?_; intro _ _ _ _ _)
  | (with_reducible refine c_dget ?_)
  | (with_reducible refine c_dput ?_)
  | (with_reducible refine c_eqSg ?_)
  | (with_reducible refine c_countW ?_)
  | ((with_reducible refine' c_stripW ?h1 ?_); (case h1 => omega))
  | ((with_reducible refine' c_setLN ?h1 ?h2 ?_); (case h1 => walk_at "hp"); (case h2 => walk_at "len"); intro _ _ _))
local macro_rules | `(tactic| walk_at "s") => `(tactic| first
  | ((with_reducible refine' c_slTk ?h1 ?h2 ?_); (case h1 => walk_at "sl"); (case h2 => walk_at "len"); intro _ _ _ _ _)
  | ((with_reducible refine' c_slD1 ?h1 ?h2 ?_); (case h1 => walk_at "sl"); (case h2 => walk_at "len"); intro _ _ _ _ _)
  | ((with_reducible refine' c_slDr ?h1 ?h2 ?_); (case h1 => walk_at "sl"); (case h2 => walk_at "len"); intro _ _ _ _ _))
local macro_rules | `(tactic| walk_at "at") => `(tactic| exact at_D0 (by omega))

local macro_rules | `(tactic| walk_at "own") => `(tactic| first
  | ((with_reducible refine' c_many ?h1 ?_); (case h1 => omega); intro _ _ _ _ _)
  | ((with_reducible refine' c_order ?h1 ?_); (case h1 => omega); intro _ _ _ _ _ _ _)
  | ((with_reducible refine' c_word ?h1 ?_); (case h1 => omega); intro _ _ _ _))

variable {K : PySem.W.Frag} {C : Cl} {vs : List V} {H : Hp} {Q : VK} {E : XK}
def t_p_Cut_init (K : PySem.W.Frag) (C : Cl) : TS := (tSeq (tIfS (tNot (tB (tCall (sp_p_within K C) [] C8.E0 (tCons (tVar 1) (tCons (tC (.int 0)) (tCons (tC (.int 60)) tNil)))))) tNever tNext) (sFld K (tVar 0) (tVar 1) "many"))
abbrev n_p_Cut_init : List Str := ["self", "many"]
def t_p_Cut_came (K : PySem.W.Frag) (C : Cl) : TS := (tSeq (tIfS (tTest (tOp oGt (tFld K (tVar 0) "many") (tVar 1))) tNever tNext) (tRet (tOp rCat (tLstRg (tRg2 (tFld K (tVar 0) "many") (tVar 1))) (tLstRg (tRg1 (tFld K (tVar 0) "many"))))))
abbrev n_p_Cut_came : List Str := ["self", "many"]
theorem rd_p_Cut_init (F : CF K C) (hav : C.av .cut) (h : sp_p_Cut_init K C vs H Q E) : t_p_Cut_init K C { nx := fun _ H' => Q .non H', rt := Q } (start n_p_Cut_init vs) H := by
  obtain ⟨p, dx, v, rfl, hp, ⟨n, rfl, hn⟩, kk⟩ := h
  show t_p_Cut_init K C _ [some (.ref p), some (vN n)] H
  unfold t_p_Cut_init
  walk_at "go"
  refine c_kSFld hp (F.cls .cut hav) (F.nMany hav) (by decide) fun H' e1 e2 => ?_
  exact kk H' e1 e2
theorem rd_p_Cut_came (F : CF K C) (h : sp_came K C .cut vs H Q E) : t_p_Cut_came K C { nx := fun _ H' => Q .non H', rt := Q } (start n_p_Cut_came vs) H := by
  obtain ⟨p, m, n, rfl, hm, hp, h1, h60, hfit, kk⟩ := h
  cases m <;> cases hm
  rename_i k
  obtain ⟨hav, hok, dx, hp⟩ := hp
  have hk : k ≤ n := hfit
  show t_p_Cut_came K C _ [some (.ref p), some (vN n)] H
  unfold t_p_Cut_came
  walk_at "go"
  refine c_kFld (v := vN k) (dx := dx) hp (F.cls .cut hav) (F.nMany hav) rfl ?_
  walk_at "go"
  refine c_kFld (v := vN k) (dx := dx) hp (F.cls .cut hav) (F.nMany hav) rfl ?_
  walk_at "go"
  refine c_kFld (v := vN k) (dx := dx) (by walk_at "hp") (F.cls .cut hav) (F.nMany hav) rfl ?_
  walk_at "go"
  rename_i q H2 hq2 s2 hq3
  refine kk _ _ (by walk_at "fr") (by walk_at "sm") ?_
  rw [hq3]
  unfold cameF cutCame
  rw [List.map_append]
def t_p_Turn_came (K : PySem.W.Frag) (C : Cl) : TS := (tRet (tRevL K (tLstRg (tRg1 (tVar 1)))))
abbrev n_p_Turn_came : List Str := ["self", "many"]
theorem rd_p_Turn_came (h : sp_came K C .turn vs H Q E) : t_p_Turn_came K C { nx := fun _ H' => Q .non H', rt := Q } (start n_p_Turn_came vs) H := by
  obtain ⟨p, m, n, rfl, hm, hp, h1, h60, hfit, kk⟩ := h
  cases m <;> cases hm
  show t_p_Turn_came K C _ [some (.ref p), some (vN n)] H
  unfold t_p_Turn_came
  walk_at "go"
  rename_i q H2 hq2 s2 hq3
  refine kk _ _ (by walk_at "fr") (by walk_at "sm") ?_
  rw [hq3]
  unfold cameF
  rw [List.map_reverse]
end Rf

set_option Elab.async false
set_option linter.all false
set_option maxRecDepth 100000
set_option maxHeartbeats 4000000
namespace Rf
open PySem PySem.Spec L2 Rm
local macro_rules | `(tactic| walk_at "ne") => `(tactic| first | assumption | (apply Ne.symm; assumption) | exact ne_new (by walk_at "hp") (by assumption) | exact ne_old (by walk_at "hp") (by assumption))
local macro_rules | `(tactic| walk_at "hp") => `(tactic| first | assumption | exact get_same (by assumption) (by walk_at "hp") | exact get_but (by assumption) (by walk_at "ne") (by walk_at "hp"))
local macro_rules | `(tactic| walk_at "sl") => `(tactic| first | assumption | exact sl_of (by assumption) | exact sl_same (by assumption) (by walk_at "sl") | exact sl_but (by assumption) (by walk_at "ne") (by walk_at "sl"))
local macro_rules | `(tactic| walk_at "st") => `(tactic| first | assumption | exact st_of (by assumption) | exact st_same (by assumption) (by walk_at "st") | exact st_but (by assumption) (by walk_at "ne") (by walk_at "st"))
local macro_rules | `(tactic| walk_at "sm") => `(tactic| first | assumption | exact Same.refl _ | exact same_tr (by assumption) (by walk_at "sm") | exact same_bt (by assumption) (by walk_at "fr") (by walk_at "sm"))
local macro_rules | `(tactic| walk_at "fr") => `(tactic| first | assumption | exact none_of_same (by assumption) (by walk_at "sm"))
local macro_rules | `(tactic| walk_at "dec") => `(tactic| first | rfl | assumption | omega | (simp only [decide_eq_true_eq, decide_eq_false_iff_not, Bool.not_eq_true', Bool.not_eq_false', Bool.not_true, Bool.not_false, Bool.and_eq_true, Bool.or_eq_true, Bool.and_eq_false_iff, Bool.or_eq_false_iff, Bool.not_eq_true, Bool.not_eq_false] <;> first | omega | assumption | rfl | (constructor <;> omega)))
local macro_rules | `(tactic| walk_at "len") => `(tactic| first | decide | omega | (simp only [List.length_append, List.length_cons, List.length_nil, List.length_map, List.length_range, List.length_reverse, List.length_set, List.length_take, List.length_drop] <;> omega) | (simp <;> omega))
local macro_rules | `(tactic| walk_at "s") => `(tactic| first
  | (with_reducible refine c_seq ?_)
  | (with_reducible refine c_asg ?_)
  | (with_reducible refine c_op ?_)
  | ((with_reducible refine' c_var ?hv ?_); (case hv => exact rfl))
  | (with_reducible refine c_c ?_)
  | (with_reducible refine c_cons ?_)
  | (with_reducible refine c_nil ?_)
  | (with_reducible refine c_and1 ?_)
  | (with_reducible refine c_shr1 ?_)
  | (with_reducible refine c_i0 ?_)
  | ((with_reducible refine' c_mul ?hv ?_); (case hv => omega))
  | ((with_reducible refine' c_div ?hv ?_); (case hv => omega))
  | ((with_reducible refine' c_mod ?hv ?_); (case hv => omega))
  | (with_reducible refine c_un ?_)
  | (with_reducible refine c_iU ?_)
  | (with_reducible refine c_call ?_)
  | (with_reducible refine c_tTest ?_)
  | (with_reducible refine c_tB ?_)
  | (with_reducible refine c_kB ?_)
  | (with_reducible refine c_ifS ?_)
  | (with_reducible refine c_gn0 ?_)
  | (with_reducible refine c_gn1 ?_)
  | (with_reducible refine c_gn2 ?_)
  | (with_reducible refine c_gn3 ?_)
  | (with_reducible refine c_gn4 ?_)
  | (with_reducible refine c_gn5 ?_)
  | (with_reducible refine c_gn6 ?_)
  | (with_reducible refine c_gn7 ?_)
  | (with_reducible refine c_gn8 ?_)
  | (with_reducible refine c_gnS ?_)
  | (with_reducible refine c_eqI ?_)
  | (with_reducible refine c_neI ?_)
  | (with_reducible refine c_eqS ?_)
  | (with_reducible refine c_neS ?_)
  | (with_reducible refine c_eqB ?_)
  | (with_reducible refine c_neB ?_)
  | (with_reducible refine c_and ?_)
  | (with_reducible refine c_or ?_)
  | (with_reducible refine c_not ?_)
  | (with_reducible refine c_andV ?_)
  | (with_reducible refine c_orV ?_)
  | (with_reducible refine c_notV ?_)
  | (with_reducible refine c_ifE ?_)
  | (with_reducible refine c_tYes ?_)
  | (with_reducible refine c_chain ?_)
  | ((with_reducible refine' c_chLe ?hv ?_ ?hm); (case hv => exact ⟨rfl, rfl⟩); (case hm => exact fun R R' hh q => hh _ _ q))
  | ((with_reducible refine' c_chLe ?hv ?_ ?hm); (case hv => exact ⟨_, rfl, rfl, rfl⟩); (case hm => exact fun R R' hh ⟨v, e, q⟩ => ⟨v, e, hh _ _ q⟩))
  | (with_reducible refine c_tup ?_)
  | (with_reducible refine c_lst ?_)
  | ((with_reducible refine' c_kTup ?hv ?_); (case hv => walk_at "len"); intro _ _ _ _ _)
  | ((with_reducible refine' c_kLst ?hv ?_); (case hv => walk_at "len"); intro _ _ _ _ _)
  | ((with_reducible refine' c_ixL ?hv ?ha ?_); (case hv => walk_at "sl"); (case ha => walk_at "at"))
  | ((with_reducible refine' c_ixT ?hv ?ha ?_); (case hv => walk_at "st"); (case ha => walk_at "at"))
  | ((with_reducible refine' c_cat ?hv ?ha ?hz ?_); (case hv => walk_at "hp"); (case ha => walk_at "hp"); (case hz => walk_at "len"); intro _ _ _ _ _)
  | ((with_reducible refine' c_addS ?hv ?_); (case hv => walk_at "len"))
  | (with_reducible refine c_sl ?_)
  | (with_reducible refine c_noP ?_)
  | (with_reducible refine c_part ?_)
  | (with_reducible refine c_kPart ?_)
  | ((with_reducible refine' c_slL ?hv ?_); (case hv => walk_at "sl"); intro _ _ _ _ _)
  | ((with_reducible refine' c_slX ?hv ?_); (case hv => walk_at "len"))
  | (with_reducible refine c_rev ?_)
  | ((with_reducible refine' c_kRev ?hv ?_); (case hv => walk_at "sl"); intro _ _ _ _ _)
  | (with_reducible refine c_CB ?_)
  | ((with_reducible refine' c_lenM ?hv ?_); (case hv => walk_at "sl"))
  | ((with_reducible refine' c_lenL ?hv ?_); (case hv => walk_at "sl"))
  | ((with_reducible refine' c_lenS ?hv ?_); (case hv => walk_at "len"))
  | ((with_reducible refine' c_listOf ?hv ?_); (case hv => walk_at "sl"); intro _ _ _ _ _)
  | (with_reducible refine c_min2 ?_)
  | (with_reducible refine c_listRg ?_)
  | (with_reducible refine c_rg1 ?_)
  | (with_reducible refine c_kRg1 ?_)
  | (with_reducible refine c_rg2 ?_)
  | (with_reducible refine c_kRg2 ?_)
  | ((with_reducible refine' c_kRgN ?hv ?_); (case hv => omega); intro _ _ _ _ _)
  | ((with_reducible refine' c_kRgN2 ?hv ?ha ?_); (case hv => omega); (case ha => omega); intro _ _ _ _ _)
  | ((with_reducible refine' c_kRg ?hv ?ha ?_); (case hv => omega); (case ha => omega); intro _ _ _ _ _)
  | (with_reducible refine c_lenSet ?_)
  | (with_reducible refine c_meth ?_)
  | (with_reducible refine c_methA ?_)
  | (with_reducible refine c_make ?_)
  | ((with_reducible refine c_makeO ?_); intro _ _ _ _ _ _)
  | (with_reducible refine c_fld ?_)
  | (with_reducible refine c_bm ?_)
  | (with_reducible refine c_bm0 ?_)
  | ((with_reducible refine' c_kBMl ?hv ?_); (case hv => walk_at "sl"))
  | ((with_reducible refine' c_kBM0l ?hv ?_); (case hv => walk_at "sl"))
  | (with_reducible refine c_kBMs ?_)
  | (with_reducible refine c_kBM0s ?_)
  | ((with_reducible refine' c_append ?hv ?hz ?_); (case hv => walk_at "hp"); (case hz => walk_at "len"); intro _ _ _)
  | ((with_reducible refine' c_extend ?hv ?ha ?hz ?_); (case hv => walk_at "hp"); (case ha => walk_at "hp"); (case hz => walk_at "len"); intro _ _ _)
  | ((with_reducible refine' c_reverse ?hv ?_); (case hv => walk_at "hp"); intro _ _ _)
  | ((with_reducible refine' c_clear ?hv ?_); (case hv => walk_at "hp"); intro _ _ _)
  | ((with_reducible refine' c_gtup ?hv ?ha ?_); (case hv => walk_at "st"); (case ha => exact rfl))
  | (with_reducible refine c_gnil ?_)
  | (with_reducible refine c_gcons ?_)
  | (with_reducible refine c_gsub ?_)
  | (with_reducible refine c_next ?_)
  | (with_reducible refine c_par ?_)
  | (with_reducible refine c_kPar ?_)
  | ((with_reducible refine' c_aug ?hv ?_); (case hv => exact rfl))
  | (with_reducible refine c_ipI ?_)
  | (with_reducible refine c_drop ?_)
  | (with_reducible refine c_ret ?_)
  | (with_reducible refine c_retN ?_)
  | (with_reducible refine c_sfld ?_)
  | (with_reducible refine c_forL ?_)
  | (with_reducible refine c_for1 ?_)
  | (with_reducible refine c_for2 ?_)
  | (with_reducible refine c_forS ?_)
  | (with_reducible refine c_forRev ?_)
  | (with_reducible refine c_lcL ?_)
  | (with_reducible refine c_lc1 ?_)
  | (refine if_f (by walk_at "dec") ?_)
  | (refine if_t (by walk_at "dec") ?_)
  | walk_at "own")
local macro_rules | `(tactic| walk_at "go") => `(tactic| repeat walk_at "s")

local macro_rules | `(tactic| walk_at "kit") => `(tactic| first | exact kit_int_int | exact kit_int_bool | exact kit_int_str | exact kit_int_list | exact kit_list_list | exact kit_list_int | exact kit_list_bool | exact kit_str_str | exact kit_str_int | exact kit_str_list | exact kit_bool_bool | exact kit_bool_int | exact kit_bool_list)
local macro_rules | `(tactic| walk_at "own") => `(tactic| first
  | ((with_reducible refine' c_isiI ?h3 ?_); (case h3 => walk_at "kit"))
  | ((with_reducible refine' c_isiL ?h1 ?h3 ?_); (case h1 => walk_at "sl"); (case h3 => walk_at "kit"))
  | ((with_reducible refine' c_isiS ?h3 ?_); (case h3 => walk_at "kit"))
  | ((with_reducible refine' c_isiB ?h3 ?_); (case h3 => walk_at "kit"))
  | (with_reducible refine c_within ?_))
local macro_rules | `(tactic| walk_at "tn") => `(tactic| first | exact tn_nat _ | exact tn_add _ _ | exact tn_sub1 _ (by omega) | exact tn_sub _ _ (by omega) | exact rfl)
local macro_rules | `(tactic| walk_at "at") => `(tactic| first | exact at_DN (by walk_at "tn") (by omega) (by omega) | exact at_DI (by walk_at "tn") (by omega) (by omega) | rfl | assumption | exact at_map (by assumption) (by first | rfl | omega))


local macro_rules | `(tactic| walk_at "own") => `(tactic| first
  | ((with_reducible refine' c_cell_at ?h1 ?h2 ?_); (case h1 => walk_at "sl"); (case h2 => omega))
  | ((with_reducible refine' c_draw ?h1 ?h2 ?_); (case h1 => omega); (case h2 => omega); intro _ _)
  | ((with_reducible refine' c_inN ?h1 ?_); (case h1 => walk_at "sl"))
  | ((with_reducible refine' c_ninN ?h1 ?_); (case h1 => walk_at "sl"))
  | ((with_reducible refine' c_eqLst leaf_nat ?h1 ?h2 ?_); (case h1 => walk_at "sl"); (case h2 => walk_at "sl"))
  | ((with_reducible refine' c_neLst leaf_nat ?h1 ?h2 ?_); (case h1 => walk_at "sl"); (case h2 => walk_at "sl")))

local macro_rules | `(tactic| walk_at "own") => `(tactic| first
  | ((with_reducible refine' c_drawB ?h1 ?h2 ?_); (case h1 => omega); (case h2 => omega); intro _ _ _ _)
  | (with_reducible refine c_dnew ?_; intro _ _ _ _ _)
  | (with_reducible refine c_dget ?_)
  | (with_reducible refine c_dput ?_)
  | (with_reducible refine c_eqSg ?_)
  | (with_reducible refine c_countW ?_)
  | ((with_reducible refine' c_stripW ?h1 ?_); (case h1 => omega))
  | ((with_reducible refine' c_setLN ?h1 ?h2 ?_); (case h1 => walk_at "hp"); (case h2 => walk_at "len"); intro _ _ _))
local macro_rules | `(tactic| walk_at "s") => `(tactic| first
  | ((with_reducible refine' c_slTk ?h1 ?h2 ?_); (case h1 => walk_at "sl"); (case h2 => walk_at "len"); intro _ _ _ _ _)
  | ((with_reducible refine' c_slD1 ?h1 ?h2 ?_); (case h1 => walk_at "sl"); (case h2 => walk_at "len"); intro _ _ _ _ _)
  | ((with_reducible refine' c_slDr ?h1 ?h2 ?_); (case h1 => walk_at "sl"); (case h2 => walk_at "len"); intro _ _ _ _ _))
local macro_rules | `(tactic| walk_at "at") => `(tactic| exact at_D0 (by omega))

local macro_rules | `(tactic| walk_at "own") => `(tactic| first
  | ((with_reducible refine' c_many ?h1 ?_); (case h1 => omega); intro _ _ _ _ _)
  | ((with_reducible refine' c_order ?h1 ?_); (case h1 => omega); intro _ _ _ _ _ _ _)
  | ((with_reducible refine' c_word ?h1 ?_); (case h1 => omega); intro _ _ _ _))

variable {K : PySem.W.Frag} {C : Cl} {vs : List V} {H : Hp} {Q : VK} {E : XK}
def t_p_Deal_init (K : PySem.W.Frag) (C : Cl) : TS := (tSeq (tIfS (tNot (tB (tCall (sp_p_within K C) [] C8.E0 (tCons (tVar 1) (tCons (tC (.int 1)) (tCons (tC (.int 60)) tNil)))))) tNever tNext) (sFld K (tVar 0) (tVar 1) "piles"))
abbrev n_p_Deal_init : List Str := ["self", "piles"]
def t_p_Deal_came_b1 (K : PySem.W.Frag) (C : Cl) : TS := (tAsg (tOp rCat (tVar 2) (tRevL K (tLstRg3 (tRg3 (tVar 3) (tVar 1) (tFld K (tVar 0) "piles"))))) (gName 2))
def t_p_Deal_came (K : PySem.W.Frag) (C : Cl) : TS := (tSeq (tAsg (tLst tNil) (gName 2)) (tSeq (tFor (iRevR (tRg1 (tFld K (tVar 0) "piles"))) (gName 3) (t_p_Deal_came_b1 K C)) (tRet (tVar 2))))
abbrev n_p_Deal_came : List Str := ["self", "many", "found", "pile"]
theorem rd_p_Deal_init (F : CF K C) (hav : C.av .deal) (h : sp_p_Deal_init K C vs H Q E) : t_p_Deal_init K C { nx := fun _ H' => Q .non H', rt := Q } (start n_p_Deal_init vs) H := by
  obtain ⟨p, dx, v, rfl, hp, ⟨n, rfl, hn, hn2⟩, kk⟩ := h
  show t_p_Deal_init K C _ [some (.ref p), some (vN n)] H
  unfold t_p_Deal_init
  walk_at "go"
  refine c_kSFld hp (F.cls .deal hav) (F.nPiles hav) (by decide) fun H' e1 e2 => ?_
  exact kk H' e1 e2
theorem pile_len (p n k : Nat) : (dealPile p n k).length ≤ n := by
  unfold dealPile
  rw [List.length_reverse]
  exact Nat.le_trans (List.length_filter_le _ _) (by simp)
theorem piles_len (p n : Nat) : ∀ l : List Nat, (l.flatMap (dealPile p n)).length ≤ l.length * n
  | [] => by simp
  | a :: l => by
    rw [List.flatMap_cons, List.length_append, List.length_cons, Nat.succ_mul]
    have := pile_len p n a
    have := piles_len p n l
    omega
theorem rd_p_Deal_came (F : CF K C) (h : sp_came K C .deal vs H Q E) : t_p_Deal_came K C { nx := fun _ H' => Q .non H', rt := Q } (start n_p_Deal_came vs) H := by
  obtain ⟨p, m, n, rfl, hm, hp, h1, h60, hfit, kk⟩ := h
  cases m <;> cases hm
  rename_i d
  obtain ⟨hav, hok, dx, hp⟩ := hp
  have hd1 : 1 ≤ d := hok.1
  have hd60 : d ≤ 60 := hok.2
  show t_p_Deal_came K C _ [some (.ref p), some (vN n), none, none] H
  unfold t_p_Deal_came
  walk_at "go"
  rename_i l0 H1 hl0 s1 hl1
  refine c_kFld (v := vN d) (dx := dx) (s1 _ _ hp) (F.cls .deal hav) (F.nPiles hav) rfl ?_
  walk_at "go"
  refine l_forRev d rfl (by omega) (fun i σ' H' => ∃ l x3, σ' = [some (.ref p), some (vN n), some (.ref l), x3] ∧ H l = none ∧ Same H H' ∧ H' l = some (.lst ((((List.range d).drop i).reverse.flatMap (dealPile d n)).map vN))) ⟨_, _, rfl, hl0, s1, by rw [List.drop_of_length_le (by simp)]; exact hl1⟩ ?_ ?_
  · rintro i _ H' hi ⟨l, x3, rfl, hl, sH, hl2⟩
    have hlen := piles_len d n ((List.range d).drop (i + 1)).reverse
    have hmul : ((List.range d).drop (i + 1)).reverse.length * n ≤ 60 * 60 := Nat.mul_le_mul (by simp; omega) h60
    have hpl := pile_len d n i
    have hst : ((List.range d).drop i).reverse.flatMap (dealPile d n) = ((List.range d).drop (i + 1)).reverse.flatMap (dealPile d n) ++ dealPile d n i := by
      have e : (List.range d).drop i = i :: (List.range d).drop (i + 1) := by
        have := List.drop_eq_getElem_cons (l := List.range d) (i := i) (by simp [hi])
        rw [List.getElem_range] at this
        exact this
      rw [e, List.reverse_cons, List.flatMap_append, List.flatMap_cons, List.flatMap_nil, List.append_nil]
    rw [hst]
    generalize ((List.range d).drop (i + 1)).reverse.flatMap (dealPile d n) = fo at *
    unfold t_p_Deal_came_b1
    walk_at "go"
    refine c_listRg3 (c_rg3 ?_)
    walk_at "go"
    refine c_kFld (v := vN d) (dx := dx) (sH _ _ hp) (F.cls .deal hav) (F.nPiles hav) rfl ?_
    refine c_kStep hi (by omega) (by omega) fun q H2 hq s2 hq2 => ?_
    refine c_kRev (sl_of hq2) fun q' H3 hq' s3 hq3 => ?_
    have hq4 : H3 q' = some (.lst ((dealPile d n i).map vN)) := by rw [hq3, ← List.map_reverse]; rfl
    walk_at "go"
    rename_i r H4 hr s4 hr4
    refine ⟨_, _, rfl, by walk_at "fr", by walk_at "sm", ?_⟩
    rw [hr4, List.map_append]
  · rintro _ H' ⟨l, x3, rfl, hl, sH, hl2⟩
    walk_at "go"
    exact kk _ _ hl sH hl2
end Rf

set_option Elab.async false
set_option linter.all false
set_option maxRecDepth 100000
set_option maxHeartbeats 4000000
namespace Rf
open PySem PySem.Spec L2 Rm
local macro_rules | `(tactic| walk_at "ne") => `(tactic| first | assumption | (apply Ne.symm; assumption) | exact ne_new (by walk_at "hp") (by assumption) | exact ne_old (by walk_at "hp") (by assumption))
local macro_rules | `(tactic| walk_at "hp") => `(tactic| first | assumption | exact get_same (by assumption) (by walk_at "hp") | exact get_but (by assumption) (by walk_at "ne") (by walk_at "hp"))
local macro_rules | `(tactic| walk_at "sl") => `(tactic| first | assumption | exact sl_of (by assumption) | exact sl_same (by assumption) (by walk_at "sl") | exact sl_but (by assumption) (by walk_at "ne") (by walk_at "sl"))
local macro_rules | `(tactic| walk_at "st") => `(tactic| first | assumption | exact st_of (by assumption) | exact st_same (by assumption) (by walk_at "st") | exact st_but (by assumption) (by walk_at "ne") (by walk_at "st"))
local macro_rules | `(tactic| walk_at "sm") => `(tactic| first | assumption | exact Same.refl _ | exact same_tr (by assumption) (by walk_at "sm") | exact same_bt (by assumption) (by walk_at "fr") (by walk_at "sm"))
local macro_rules | `(tactic| walk_at "fr") => `(tactic| first | assumption | exact none_of_same (by assumption) (by walk_at "sm"))
local macro_rules | `(tactic| walk_at "dec") => `(tactic| first | rfl | assumption | omega | (simp only [decide_eq_true_eq, decide_eq_false_iff_not, Bool.not_eq_true', Bool.not_eq_false', Bool.not_true, Bool.not_false, Bool.and_eq_true, Bool.or_eq_true, Bool.and_eq_false_iff, Bool.or_eq_false_iff, Bool.not_eq_true, Bool.not_eq_false] <;> first | omega | assumption | rfl | (constructor <;> omega)))
local macro_rules | `(tactic| walk_at "len") => `(tactic| first | decide | omega | (simp only [List.length_append, List.length_cons, List.length_nil, List.length_map, List.length_range, List.length_reverse, List.length_set, List.length_take, List.length_drop] <;> omega) | (simp <;> omega))
local macro_rules | `(tactic| walk_at "s") => `(tactic| first
  | (with_reducible refine c_seq ?_)
  | (with_reducible refine c_asg ?_)
  | (with_reducible refine c_op ?_)
  | ((with_reducible refine' c_var ?hv ?_); (case hv => exact rfl))
  | (with_reducible refine c_c ?_)
  | (with_reducible refine c_cons ?_)
  | (with_reducible refine c_nil ?_)
  | (with_reducible refine c_and1 ?_)
  | (with_reducible refine c_shr1 ?_)
  | (with_reducible refine c_i0 ?_)
  | ((with_reducible refine' c_mul ?hv ?_); (case hv => omega))
  | ((with_reducible refine' c_div ?hv ?_); (case hv => omega))
  | ((with_reducible refine' c_mod ?hv ?_); (case hv => omega))
  | (with_reducible refine c_un ?_)
  | (with_reducible refine c_iU ?_)
  | (with_reducible refine c_call ?_)
  | (with_reducible refine c_tTest ?_)
  | (with_reducible refine c_tB ?_)
  | (with_reducible refine c_kB ?_)
  | (with_reducible refine c_ifS ?_)
  | (with_reducible refine c_gn0 ?_)
  | (with_reducible refine c_gn1 ?_)
  | (with_reducible refine c_gn2 ?_)
  | (with_reducible refine c_gn3 ?_)
  | (with_reducible refine c_gn4 ?_)
  | (with_reducible refine c_gn5 ?_)
  | (with_reducible refine c_gn6 ?_)
  | (with_reducible refine c_gn7 ?_)
  | (with_reducible refine c_gn8 ?_)
  | (with_reducible refine c_gnS ?_)
  | (with_reducible refine c_eqI ?_)
  | (with_reducible refine c_neI ?_)
  | (with_reducible refine c_eqS ?_)
  | (with_reducible refine c_neS ?_)
  | (with_reducible refine c_eqB ?_)
  | (with_reducible refine c_neB ?_)
  | (with_reducible refine c_and ?_)
  | (with_reducible refine c_or ?_)
  | (with_reducible refine c_not ?_)
  | (with_reducible refine c_andV ?_)
  | (with_reducible refine c_orV ?_)
  | (with_reducible refine c_notV ?_)
  | (with_reducible refine c_ifE ?_)
  | (with_reducible refine c_tYes ?_)
  | (with_reducible refine c_chain ?_)
  | ((with_reducible refine' c_chLe ?hv ?_ ?hm); (case hv => exact ⟨rfl, rfl⟩); (case hm => exact fun R R' hh q => hh _ _ q))
  | ((with_reducible refine' c_chLe ?hv ?_ ?hm); (case hv => exact ⟨_, rfl, rfl, rfl⟩); (case hm => exact fun R R' hh ⟨v, e, q⟩ => ⟨v, e, hh _ _ q⟩))
  | (with_reducible refine c_tup ?_)
  | (with_reducible refine c_lst ?_)
  | ((with_reducible refine' c_kTup ?hv ?_); (case hv => walk_at "len"); intro _ _ _ _ _)
  | ((with_reducible refine' c_kLst ?hv ?_); (case hv => walk_at "len"); intro _ _ _ _ _)
  | ((with_reducible refine' c_ixL ?hv ?ha ?_); (case hv => walk_at "sl"); (case ha => walk_at "at"))
  | ((with_reducible refine' c_ixT ?hv ?ha ?_); (case hv => walk_at "st"); (case ha => walk_at "at"))
  | ((with_reducible refine' c_cat ?hv ?ha ?hz ?_); (case hv => walk_at "hp"); (case ha => walk_at "hp"); (case hz => walk_at "len"); intro _ _ _ _ _)
  | ((with_reducible refine' c_addS ?hv ?_); (case hv => walk_at "len"))
  | (with_reducible refine c_sl ?_)
  | (with_reducible refine c_noP ?_)
  | (with_reducible refine c_part ?_)
  | (with_reducible refine c_kPart ?_)
  | ((with_reducible refine' c_slL ?hv ?_); (case hv => walk_at "sl"); intro _ _ _ _ _)
  | ((with_reducible refine' c_slX ?hv ?_); (case hv => walk_at "len"))
  | (with_reducible refine c_rev ?_)
  | ((with_reducible refine' c_kRev ?hv ?_); (case hv => walk_at "sl"); intro _ _ _ _ _)
  | (with_reducible refine c_CB ?_)
  | ((with_reducible refine' c_lenM ?hv ?_); (case hv => walk_at "sl"))
  | ((with_reducible refine' c_lenL ?hv ?_); (case hv => walk_at "sl"))
  | ((with_reducible refine' c_lenS ?hv ?_); (case hv => walk_at "len"))
  | ((with_reducible refine' c_listOf ?hv ?_); (case hv => walk_at "sl"); intro _ _ _ _ _)
  | (with_reducible refine c_min2 ?_)
  | (with_reducible refine c_listRg ?_)
  | (with_reducible refine c_rg1 ?_)
  | (with_reducible refine c_kRg1 ?_)
  | (with_reducible refine c_rg2 ?_)
  | (with_reducible refine c_kRg2 ?_)
  | ((with_reducible refine' c_kRgN ?hv ?_); (case hv => omega); intro _ _ _ _ _)
  | ((with_reducible refine' c_kRgN2 ?hv ?ha ?_); (case hv => omega); (case ha => omega); intro _ _ _ _ _)
  | ((with_reducible refine' c_kRg ?hv ?ha ?_); (case hv => omega); (case ha => omega); intro _ _ _ _ _)
  | (with_reducible refine c_lenSet ?_)
  | (with_reducible refine c_meth ?_)
  | (with_reducible refine c_methA ?_)
  | (with_reducible refine c_make ?_)
  | ((with_reducible refine c_makeO ?_); intro _ _ _ _ _ _)
  | (with_reducible refine c_fld ?_)
  | (with_reducible refine c_bm ?_)
  | (with_reducible refine c_bm0 ?_)
  | ((with_reducible refine' c_kBMl ?hv ?_); (case hv => walk_at "sl"))
  | ((with_reducible refine' c_kBM0l ?hv ?_); (case hv => walk_at "sl"))
  | (with_reducible refine c_kBMs ?_)
  | (with_reducible refine c_kBM0s ?_)
  | ((with_reducible refine' c_append ?hv ?hz ?_); (case hv => walk_at "hp"); (case hz => walk_at "len"); intro _ _ _)
  | ((with_reducible refine' c_extend ?hv ?ha ?hz ?_); (case hv => walk_at "hp"); (case ha => walk_at "hp"); (case hz => walk_at "len"); intro _ _ _)
  | ((with_reducible refine' c_reverse ?hv ?_); (case hv => walk_at "hp"); intro _ _ _)
  | ((with_reducible refine' c_clear ?hv ?_); (case hv => walk_at "hp"); intro _ _ _)
  | ((with_reducible refine' c_gtup ?hv ?ha ?_); (case hv => walk_at "st"); (case ha => exact rfl))
  | (with_reducible refine c_gnil ?_)
  | (with_reducible refine c_gcons ?_)
  | (with_reducible refine c_gsub ?_)
  | (with_reducible refine c_next ?_)
  | (with_reducible refine c_par ?_)
  | (with_reducible refine c_kPar ?_)
  | ((with_reducible refine' c_aug ?hv ?_); (case hv => exact rfl))
  | (with_reducible refine c_ipI ?_)
  | (with_reducible refine c_drop ?_)
  | (with_reducible refine c_ret ?_)
  | (with_reducible refine c_retN ?_)
  | (with_reducible refine c_sfld ?_)
  | (with_reducible refine c_forL ?_)
  | (with_reducible refine c_for1 ?_)
  | (with_reducible refine c_for2 ?_)
  | (with_reducible refine c_forS ?_)
  | (with_reducible refine c_forRev ?_)
  | (with_reducible refine c_lcL ?_)
  | (with_reducible refine c_lc1 ?_)
  | (refine if_f (by walk_at "dec") ?_)
  | (refine if_t (by walk_at "dec") ?_)
  | walk_at "own")
local macro_rules | `(tactic| walk_at "go") => `(tactic| repeat walk_at "s")

local macro_rules | `(tactic| walk_at "kit") => `(tactic| first | exact kit_int_int | exact kit_int_bool | exact kit_int_str | exact kit_int_list | exact kit_list_list | exact kit_list_int | exact kit_list_bool | exact kit_str_str | exact kit_str_int | exact kit_str_list | exact kit_bool_bool | exact kit_bool_int | exact kit_bool_list)
local macro_rules | `(tactic| walk_at "own") => `(tactic| first
  | ((with_reducible refine' c_isiI ?h3 ?_); (case h3 => walk_at "kit"))
  | ((with_reducible refine' c_isiL ?h1 ?h3 ?_); (case h1 => walk_at "sl"); (case h3 => walk_at "kit"))
  | ((with_reducible refine' c_isiS ?h3 ?_); (case h3 => walk_at "kit"))
  | ((with_reducible refine' c_isiB ?h3 ?_); (case h3 => walk_at "kit"))
  | (with_reducible refine c_within ?_))
local macro_rules | `(tactic| walk_at "tn") => `(tactic| first | exact tn_nat _ | exact tn_add _ _ | exact tn_sub1 _ (by omega) | exact tn_sub _ _ (by omega) | exact rfl)
local macro_rules | `(tactic| walk_at "at") => `(tactic| first | exact at_DN (by walk_at "tn") (by omega) (by omega) | exact at_DI (by walk_at "tn") (by omega) (by omega) | rfl | assumption | exact at_map (by assumption) (by first | rfl | omega))


local macro_rules | `(tactic| walk_at "own") => `(tactic| first
  | ((with_reducible refine' c_cell_at ?h1 ?h2 ?_); (case h1 => walk_at "sl"); (case h2 => omega))
  | ((with_reducible refine' c_draw ?h1 ?h2 ?_); (case h1 => omega); (case h2 => omega); intro _ _)
  | ((with_reducible refine' c_inN ?h1 ?_); (case h1 => walk_at "sl"))
  | ((with_reducible refine' c_ninN ?h1 ?_); (case h1 => walk_at "sl"))
  | ((with_reducible refine' c_eqLst leaf_nat ?h1 ?h2 ?_); (case h1 => walk_at "sl"); (case h2 => walk_at "sl"))
  | ((with_reducible refine' c_neLst leaf_nat ?h1 ?h2 ?_); (case h1 => walk_at "sl"); (case h2 => walk_at "sl")))

local macro_rules | `(tactic| walk_at "own") => `(tactic| first
  | ((with_reducible refine' c_drawB ?h1 ?h2 ?_); (case h1 => omega); (case h2 => omega); intro _ _ _ _)
  | (with_reducible refine c_dnew ?_; intro _ _ _ _ _)
  | (with_reducible refine c_dget ?_)
  | (with_reducible refine c_dput ?_)
  | (with_reducible refine c_eqSg ?_)
  | (with_reducible refine c_countW ?_)
  | ((with_reducible refine' c_stripW ?h1 ?_); (case h1 => omega))
  | ((with_reducible refine' c_setLN ?h1 ?h2 ?_); (case h1 => walk_at "hp"); (case h2 => walk_at "len"); intro _ _ _))
local macro_rules | `(tactic| walk_at "s") => `(tactic| first
  | ((with_reducible refine' c_slTk ?h1 ?h2 ?_); (case h1 => walk_at "sl"); (case h2 => walk_at "len"); intro _ _ _ _ _)
  | ((with_reducible refine' c_slD1 ?h1 ?h2 ?_); (case h1 => walk_at "sl"); (case h2 => walk_at "len"); intro _ _ _ _ _)
  | ((with_reducible refine' c_slDr ?h1 ?h2 ?_); (case h1 => walk_at "sl"); (case h2 => walk_at "len"); intro _ _ _ _ _))
local macro_rules | `(tactic| walk_at "at") => `(tactic| exact at_D0 (by omega))

local macro_rules | `(tactic| walk_at "own") => `(tactic| first
  | ((with_reducible refine' c_many ?h1 ?_); (case h1 => omega); intro _ _ _ _ _)
  | ((with_reducible refine' c_order ?h1 ?_); (case h1 => omega); intro _ _ _ _ _ _ _)
  | ((with_reducible refine' c_word ?h1 ?_); (case h1 => omega); intro _ _ _ _))

variable {K : PySem.W.Frag} {C : Cl} {vs : List V} {H : Hp} {Q : VK} {E : XK}
def t_p_Under_came_b1 (K : PySem.W.Frag) (C : Cl) : TS := (tSeq (tAsg (tOp rCat (tLst (tCons (tOp (rIxL K) (tVar 2) (tC (.int 0))) tNil)) (tVar 3)) (gName 3)) (tAsg (tOp rCat (tSl (rSlL K) (tVar 2) (tPart (tC (.int 2))) tNoPart) (tSl (rSlL K) (tVar 2) (tPart (tC (.int 1))) (tPart (tC (.int 2))))) (gName 2)))
def t_p_Under_came (K : PySem.W.Frag) (C : Cl) : TS := (tSeq (tAsg (tLstRg (tRg1 (tVar 1))) (gName 2)) (tSeq (tAsg (tLst tNil) (gName 3)) (tSeq (tWhile (tTest (tOp oGt (tCB (rLenQ K) (tCons (tVar 2) tNil)) (tC (.int 0)))) (t_p_Under_came_b1 K C)) (tRet (tVar 3)))))
abbrev n_p_Under_came : List Str := ["self", "many", "pack", "down"]
theorem rd_p_Under_came (h : sp_came K C .under vs H Q E) : t_p_Under_came K C { nx := fun _ H' => Q .non H', rt := Q } (start n_p_Under_came vs) H := by
  obtain ⟨p, m, n, rfl, hm, hp, h1, h60, hfit, kk⟩ := h
  cases m <;> cases hm
  show t_p_Under_came K C _ [some (.ref p), some (vN n), none, none] H
  unfold t_p_Under_came
  walk_at "go"
  rename_i l0 H1 hl0 s1 hl1 d0 H2 hd0 s2 hd2
  refine l_while (fun m σ' H' => ∃ l d pk dn, σ' = [some (.ref p), some (vN n), some (.ref l), some (.ref d)] ∧ H d = none ∧ Same H H' ∧ H' l = some (.lst (pk.map vN)) ∧ H' d = some (.lst (dn.map vN)) ∧ pk.length = m ∧ pk.length + dn.length = n ∧ underGo m pk dn = underCame n) n
    ⟨_, _, List.range n, [], rfl, none_of_same hd0 s1, s1.trans s2, s2 _ _ hl1, hd2, by simp, by simp, rfl⟩ ?_ ?_
  · rintro m _ H' ⟨l, d, pk, dn, rfl, hd, sH, hl2, hd3, hm, hn, hu⟩
    walk_at "go"
    refine if_d (fun h => ?_) (fun h => ?_)
    · obtain ⟨x, r, rfl⟩ : ∃ x r, pk = x :: r := by
        cases pk with
        | nil => simp at h
        | cons x r => exact ⟨x, r, rfl⟩
      obtain ⟨m, rfl⟩ : ∃ m', m = m' + 1 := ⟨r.length, by simpa using hm.symm⟩
      have hu2 : underGo m (r.drop 1 ++ r.take 1) (x :: dn) = underCame n := hu
      have hrl : r.length = m := by simpa using hm
      unfold t_p_Under_came_b1
      have hdl : dn.length + 1 ≤ 1000 := by simp at hn; omega
      refine c_seq (c_asg (c_op (c_lst (c_cons (c_op (c_var rfl (c_c (c_ixL (v := vN x) (sl_of hl2) (atI_nat (j := 0) rfl) (c_nil (c_kLst (by simp) fun q H3 hq s3 hq3 => ?_))))))))))
      refine c_var rfl (c_cat hq3 (s3 _ _ hd3) (by simp; omega) fun q' H4 hq' s4 hq4 => c_gn3 ?_)
      have hl4 : H4 l = some (.lst ((x :: r).map vN)) := s4 _ _ (s3 _ _ hl2)
      refine c_asg (c_op (c_sl (c_var rfl (c_part (c_c (c_kPart (c_noP (c_slDrA (n := 2) (sl_of hl4) fun u H5 hu5 s5 hu6 => ?_))))))))
      refine c_sl (c_var rfl (c_part (c_c (c_kPart (c_part (c_c (c_kPart (c_sl12 (sl_of (s5 _ _ hl4)) fun w H6 hw6 s6 hw7 => ?_))))))))
      have e1 : (x :: r).drop 2 = r.drop 1 := rfl
      have e2 : ((x :: r).drop 1).take 1 = r.take 1 := rfl
      rw [e1] at hu6
      rw [e2] at hw7
      refine c_cat (s6 _ _ hu6) hw7 (by simp; omega) fun y H7 hy s7 hy7 => c_gn2 ?_
      have sA := sH.trans (s3.trans s4)
      have sB := sA.trans ((s5.trans s6).trans s7)
      exact ⟨m, by omega, _, _, r.drop 1 ++ r.take 1, x :: dn, rfl, none_of_same hq' (sH.trans s3), sB, by rw [hy7, List.map_append], s7 _ _ (s6 _ _ (s5 _ _ hq4)), by simp; omega, by simp at hn ⊢; omega, hu2⟩
    · have : m = 0 := by omega
      subst this
      have hpk : pk = [] := List.length_eq_zero_iff.mp hm
      subst hpk
      walk_at "go"
      have hdn : dn = underCame n := hu
      rw [hdn] at hd3
      exact kk _ _ hd sH hd3
  · exact fun σ H Q Q' hq ⟨v, e, p, ys, e1, e2, i, j, a, b, k, c, z⟩ => ⟨v, e, p, ys, e1, e2, i, j, a, b, k, c, hq _ _ z⟩
end Rf

set_option Elab.async false
set_option linter.all false
set_option maxRecDepth 100000
set_option maxHeartbeats 4000000
namespace Rf
open PySem PySem.Spec L2 Rm
local macro_rules | `(tactic| walk_at "ne") => `(tactic| first | assumption | (apply Ne.symm; assumption) | exact ne_new (by walk_at "hp") (by assumption) | exact ne_old (by walk_at "hp") (by assumption))
local macro_rules | `(tactic| walk_at "hp") => `(tactic| first | assumption | exact get_same (by assumption) (by walk_at "hp") | exact get_but (by assumption) (by walk_at "ne") (by walk_at "hp"))
local macro_rules | `(tactic| walk_at "sl") => `(tactic| first | assumption | exact sl_of (by assumption) | exact sl_same (by assumption) (by walk_at "sl") | exact sl_but (by assumption) (by walk_at "ne") (by walk_at "sl"))
local macro_rules | `(tactic| walk_at "st") => `(tactic| first | assumption | exact st_of (by assumption) | exact st_same (by assumption) (by walk_at "st") | exact st_but (by assumption) (by walk_at "ne") (by walk_at "st"))
local macro_rules | `(tactic| walk_at "sm") => `(tactic| first | assumption | exact Same.refl _ | exact same_tr (by assumption) (by walk_at "sm") | exact same_bt (by assumption) (by walk_at "fr") (by walk_at "sm"))
local macro_rules | `(tactic| walk_at "fr") => `(tactic| first | assumption | exact none_of_same (by assumption) (by walk_at "sm"))
local macro_rules | `(tactic| walk_at "dec") => `(tactic| first | rfl | assumption | omega | (simp only [decide_eq_true_eq, decide_eq_false_iff_not, Bool.not_eq_true', Bool.not_eq_false', Bool.not_true, Bool.not_false, Bool.and_eq_true, Bool.or_eq_true, Bool.and_eq_false_iff, Bool.or_eq_false_iff, Bool.not_eq_true, Bool.not_eq_false] <;> first | omega | assumption | rfl | (constructor <;> omega)))
local macro_rules | `(tactic| walk_at "len") => `(tactic| first | decide | omega | (simp only [List.length_append, List.length_cons, List.length_nil, List.length_map, List.length_range, List.length_reverse, List.length_set, List.length_take, List.length_drop] <;> omega) | (simp <;> omega))
local macro_rules | `(tactic| walk_at "s") => `(tactic| first
  | (with_reducible refine c_seq ?_)
  | (with_reducible refine c_asg ?_)
  | (with_reducible refine c_op ?_)
  | ((with_reducible refine' c_var ?hv ?_); (case hv => exact rfl))
  | (with_reducible refine c_c ?_)
  | (with_reducible refine c_cons ?_)
  | (with_reducible refine c_nil ?_)
  | (with_reducible refine c_and1 ?_)
  | (with_reducible refine c_shr1 ?_)
  | (with_reducible refine c_i0 ?_)
  | ((with_reducible refine' c_mul ?hv ?_); (case hv => omega))
  | ((with_reducible refine' c_div ?hv ?_); (case hv => omega))
  | ((with_reducible refine' c_mod ?hv ?_); (case hv => omega))
  | (with_reducible refine c_un ?_)
  | (with_reducible refine c_iU ?_)
  | (with_reducible refine c_call ?_)
  | (with_reducible refine c_tTest ?_)
  | (with_reducible refine c_tB ?_)
  | (with_reducible refine c_kB ?_)
  | (with_reducible refine c_ifS ?_)
  | (with_reducible refine c_gn0 ?_)
  | (with_reducible refine c_gn1 ?_)
  | (with_reducible refine c_gn2 ?_)
  | (with_reducible refine c_gn3 ?_)
  | (with_reducible refine c_gn4 ?_)
  | (with_reducible refine c_gn5 ?_)
  | (with_reducible refine c_gn6 ?_)
  | (with_reducible refine c_gn7 ?_)
  | (with_reducible refine c_gn8 ?_)
  | (with_reducible refine c_gnS ?_)
  | (with_reducible refine c_eqI ?_)
  | (with_reducible refine c_neI ?_)
  | (with_reducible refine c_eqS ?_)
  | (with_reducible refine c_neS ?_)
  | (with_reducible refine c_eqB ?_)
  | (with_reducible refine c_neB ?_)
  | (with_reducible refine c_and ?_)
  | (with_reducible refine c_or ?_)
  | (with_reducible refine c_not ?_)
  | (with_reducible refine c_andV ?_)
  | (with_reducible refine c_orV ?_)
  | (with_reducible refine c_notV ?_)
  | (with_reducible refine c_ifE ?_)
  | (with_reducible refine c_tYes ?_)
  | (with_reducible refine c_chain ?_)
  | ((with_reducible refine' c_chLe ?hv ?_ ?hm); (case hv => exact ⟨rfl, rfl⟩); (case hm => exact fun R R' hh q => hh _ _ q))
  | ((with_reducible refine' c_chLe ?hv ?_ ?hm); (case hv => exact ⟨_, rfl, rfl, rfl⟩); (case hm => exact fun R R' hh ⟨v, e, q⟩ => ⟨v, e, hh _ _ q⟩))
  | (with_reducible refine c_tup ?_)
  | (with_reducible refine c_lst ?_)
  | ((with_reducible refine' c_kTup ?hv ?_); (case hv => walk_at "len"); intro _ _ _ _ _)
  | ((with_reducible refine' c_kLst ?hv ?_); (case hv => walk_at "len"); intro _ _ _ _ _)
  | ((with_reducible refine' c_ixL ?hv ?ha ?_); (case hv => walk_at "sl"); (case ha => walk_at "at"))
  | ((with_reducible refine' c_ixT ?hv ?ha ?_); (case hv => walk_at "st"); (case ha => walk_at "at"))
  | ((with_reducible refine' c_cat ?hv ?ha ?hz ?_); (case hv => walk_at "hp"); (case ha => walk_at "hp"); (case hz => walk_at "len"); intro _ _ _ _ _)
  | ((with_reducible refine' c_addS ?hv ?_); (case hv => walk_at "len"))
  | (with_reducible refine c_sl ?_)
  | (with_reducible refine c_noP ?_)
  | (with_reducible refine c_part ?_)
  | (with_reducible refine c_kPart ?_)
  | ((with_reducible refine' c_slL ?hv ?_); (case hv => walk_at "sl"); intro _ _ _ _ _)
  | ((with_reducible refine' c_slX ?hv ?_); (case hv => walk_at "len"))
  | (with_reducible refine c_rev ?_)
  | ((with_reducible refine' c_kRev ?hv ?_); (case hv => walk_at "sl"); intro _ _ _ _ _)
  | (with_reducible refine c_CB ?_)
  | ((with_reducible refine' c_lenM ?hv ?_); (case hv => walk_at "sl"))
  | ((with_reducible refine' c_lenL ?hv ?_); (case hv => walk_at "sl"))
  | ((with_reducible refine' c_lenS ?hv ?_); (case hv => walk_at "len"))
  | ((with_reducible refine' c_listOf ?hv ?_); (case hv => walk_at "sl"); intro _ _ _ _ _)
  | (with_reducible refine c_min2 ?_)
  | (with_reducible refine c_listRg ?_)
  | (with_reducible refine c_rg1 ?_)
  | (with_reducible refine c_kRg1 ?_)
  | (with_reducible refine c_rg2 ?_)
  | (with_reducible refine c_kRg2 ?_)
  | ((with_reducible refine' c_kRgN ?hv ?_); (case hv => omega); intro _ _ _ _ _)
  | ((with_reducible refine' c_kRgN2 ?hv ?ha ?_); (case hv => omega); (case ha => omega); intro _ _ _ _ _)
  | ((with_reducible refine' c_kRg ?hv ?ha ?_); (case hv => omega); (case ha => omega); intro _ _ _ _ _)
  | (with_reducible refine c_lenSet ?_)
  | (with_reducible refine c_meth ?_)
  | (with_reducible refine c_methA ?_)
  | (with_reducible refine c_make ?_)
  | ((with_reducible refine c_makeO ?_); intro _ _ _ _ _ _)
  | (with_reducible refine c_fld ?_)
  | (with_reducible refine c_bm ?_)
  | (with_reducible refine c_bm0 ?_)
  | ((with_reducible refine' c_kBMl ?hv ?_); (case hv => walk_at "sl"))
  | ((with_reducible refine' c_kBM0l ?hv ?_); (case hv => walk_at "sl"))
  | (with_reducible refine c_kBMs ?_)
  | (with_reducible refine c_kBM0s ?_)
  | ((with_reducible refine' c_append ?hv ?hz ?_); (case hv => walk_at "hp"); (case hz => walk_at "len"); intro _ _ _)
  | ((with_reducible refine' c_extend ?hv ?ha ?hz ?_); (case hv => walk_at "hp"); (case ha => walk_at "hp"); (case hz => walk_at "len"); intro _ _ _)
  | ((with_reducible refine' c_reverse ?hv ?_); (case hv => walk_at "hp"); intro _ _ _)
  | ((with_reducible refine' c_clear ?hv ?_); (case hv => walk_at "hp"); intro _ _ _)
  | ((with_reducible refine' c_gtup ?hv ?ha ?_); (case hv => walk_at "st"); (case ha => exact rfl))
  | (with_reducible refine c_gnil ?_)
  | (with_reducible refine c_gcons ?_)
  | (with_reducible refine c_gsub ?_)
  | (with_reducible refine c_next ?_)
  | (with_reducible refine c_par ?_)
  | (with_reducible refine c_kPar ?_)
  | ((with_reducible refine' c_aug ?hv ?_); (case hv => exact rfl))
  | (with_reducible refine c_ipI ?_)
  | (with_reducible refine c_drop ?_)
  | (with_reducible refine c_ret ?_)
  | (with_reducible refine c_retN ?_)
  | (with_reducible refine c_sfld ?_)
  | (with_reducible refine c_forL ?_)
  | (with_reducible refine c_for1 ?_)
  | (with_reducible refine c_for2 ?_)
  | (with_reducible refine c_forS ?_)
  | (with_reducible refine c_forRev ?_)
  | (with_reducible refine c_lcL ?_)
  | (with_reducible refine c_lc1 ?_)
  | (refine if_f (by walk_at "dec") ?_)
  | (refine if_t (by walk_at "dec") ?_)
  | walk_at "own")
local macro_rules | `(tactic| walk_at "go") => `(tactic| repeat walk_at "s")

local macro_rules | `(tactic| walk_at "kit") => `(tactic| first | exact kit_int_int | exact kit_int_bool | exact kit_int_str | exact kit_int_list | exact kit_list_list | exact kit_list_int | exact kit_list_bool | exact kit_str_str | exact kit_str_int | exact kit_str_list | exact kit_bool_bool | exact kit_bool_int | exact kit_bool_list)
local macro_rules | `(tactic| walk_at "own") => `(tactic| first
  | ((with_reducible refine' c_isiI ?h3 ?_); (case h3 => walk_at "kit"))
  | ((with_reducible refine' c_isiL ?h1 ?h3 ?_); (case h1 => walk_at "sl"); (case h3 => walk_at "kit"))
  | ((with_reducible refine' c_isiS ?h3 ?_); (case h3 => walk_at "kit"))
  | ((with_reducible refine' c_isiB ?h3 ?_); (case h3 => walk_at "kit"))
  | (with_reducible refine c_within ?_))
local macro_rules | `(tactic| walk_at "tn") => `(tactic| first | exact tn_nat _ | exact tn_add _ _ | exact tn_sub1 _ (by omega) | exact tn_sub _ _ (by omega) | exact rfl)
local macro_rules | `(tactic| walk_at "at") => `(tactic| first | exact at_DN (by walk_at "tn") (by omega) (by omega) | exact at_DI (by walk_at "tn") (by omega) (by omega) | rfl | assumption | exact at_map (by assumption) (by first | rfl | omega))


local macro_rules | `(tactic| walk_at "own") => `(tactic| first
  | ((with_reducible refine' c_cell_at ?h1 ?h2 ?_); (case h1 => walk_at "sl"); (case h2 => omega))
  | ((with_reducible refine' c_draw ?h1 ?h2 ?_); (case h1 => omega); (case h2 => omega); intro _ _)
  | ((with_reducible refine' c_inN ?h1 ?_); (case h1 => walk_at "sl"))
  | ((with_reducible refine' c_ninN ?h1 ?_); (case h1 => walk_at "sl"))
  | ((with_reducible refine' c_eqLst leaf_nat ?h1 ?h2 ?_); (case h1 => walk_at "sl"); (case h2 => walk_at "sl"))
  | ((with_reducible refine' c_neLst leaf_nat ?h1 ?h2 ?_); (case h1 => walk_at "sl"); (case h2 => walk_at "sl")))

local macro_rules | `(tactic| walk_at "own") => `(tactic| first
  | ((with_reducible refine' c_drawB ?h1 ?h2 ?_); (case h1 => omega); (case h2 => omega); intro _ _ _ _)
  | (with_reducible refine c_dnew ?_; intro _ _ _ _ _)
  | (with_reducible refine c_dget ?_)
  | (with_reducible refine c_dput ?_)
  | (with_reducible refine c_eqSg ?_)
  | (with_reducible refine c_countW ?_)
  | ((with_reducible refine' c_stripW ?h1 ?_); (case h1 => omega))
  | ((with_reducible refine' c_setLN ?h1 ?h2 ?_); (case h1 => walk_at "hp"); (case h2 => walk_at "len"); intro _ _ _))
local macro_rules | `(tactic| walk_at "s") => `(tactic| first
  | ((with_reducible refine' c_slTk ?h1 ?h2 ?_); (case h1 => walk_at "sl"); (case h2 => walk_at "len"); intro _ _ _ _ _)
  | ((with_reducible refine' c_slD1 ?h1 ?h2 ?_); (case h1 => walk_at "sl"); (case h2 => walk_at "len"); intro _ _ _ _ _)
  | ((with_reducible refine' c_slDr ?h1 ?h2 ?_); (case h1 => walk_at "sl"); (case h2 => walk_at "len"); intro _ _ _ _ _))
local macro_rules | `(tactic| walk_at "at") => `(tactic| exact at_D0 (by omega))

local macro_rules | `(tactic| walk_at "own") => `(tactic| first
  | ((with_reducible refine' c_many ?h1 ?_); (case h1 => omega); intro _ _ _ _ _)
  | ((with_reducible refine' c_order ?h1 ?_); (case h1 => omega); intro _ _ _ _ _ _ _)
  | ((with_reducible refine' c_word ?h1 ?_); (case h1 => omega); intro _ _ _ _))

variable {K : PySem.W.Frag} {C : Cl} {vs : List V} {H : Hp} {Q : VK} {E : XK}
def t_l_dealt_b1 (K : PySem.W.Frag) (C : Cl) : TS := (tAsg (tOp rCat (tLst (tCons (tOp (rIxL K) (tVar 0) (tVar 3)) tNil)) (tOp (rIxL K) (tVar 2) (tOp oMod (tVar 3) (tVar 1)))) (gSub (tVar 2) (tOp oMod (tVar 3) (tVar 1)) rSetL))
def t_l_dealt_b2 (K : PySem.W.Frag) (C : Cl) : TS := (tAsg (tOp rCat (tVar 5) (tVar 4)) (gName 4))
def t_l_dealt (K : PySem.W.Frag) (C : Cl) : TS := (tSeq (tAsg (tLc (iRng1 (tCons (tVar 1) tNil)) (gName 3) tYes (tLst tNil) [3]) (gName 2)) (tSeq (tFor (iRng1 (tCons (tCB (rLenQ K) (tCons (tVar 0) tNil)) tNil)) (gName 3) (t_l_dealt_b1 K C)) (tSeq (tAsg (tLst tNil) (gName 4)) (tSeq (tFor (iList K (tVar 2)) (gName 5) (t_l_dealt_b2 K C)) (tRet (tVar 4))))))
abbrev n_l_dealt : List Str := ["_law_order_here", "_law_piles", "_law_heaps", "_law_k", "_law_made_here", "_law_heap"]
theorem heap_len (os : List Nat) (p i j : Nat) : (heapF os p i j).length ≤ i := by
  unfold heapF
  rw [pick_length]
  exact pile_len p i j
theorem heaps_set {p i : Nat} {os : List Nat} (h1 : 1 ≤ p) : ((List.range p).map (heapF os p i)).set (i % p) (os.getD i 0 :: heapF os p i (i % p)) = (List.range p).map (heapF os p (i + 1)) := by
  refine List.ext_getElem (by simp) fun j h2 h3 => ?_
  rw [List.length_map, List.length_range] at h3
  rw [List.getElem_set]
  simp only [List.getElem_map, List.getElem_range]
  rw [heap_succ]
  by_cases e : i % p = j
  · subst e
    simp
  · simp [e]
theorem rd_l_dealt (h : sp_l_dealt K C vs H Q E) : t_l_dealt K C { nx := fun _ H' => Q .non H', rt := Q } (start n_l_dealt vs) H := by
  obtain ⟨a, os, p, rfl, hs, hl, h1, h60, kk⟩ := h
  show t_l_dealt K C _ [some (.ref a), some (vN p), none, none, none, none] H
  unfold t_l_dealt
  walk_at "go"
  refine l_lcNew1 p rfl (by omega) (fun _ => []) (fun x => rfl) (fun x H' q hx s k' => ?_) (fun hp H1 hN => ?_)
  · show tLst tNil _ H' q
    exact c_lst (c_nil (c_kLst (by decide) fun p H'' h1 h2 h3 => k' p H'' h1 h2 h3))
  · have hs1 := sl_same hN.choose_spec.2.1 hs
    walk_at "go"
    refine l_for1 os.length rfl (by omega) (fun i σ' H' => ∃ x3, σ' = [some (.ref a), some (vN p), some (.ref hp), x3, none, none] ∧ NewLists H H' hp ((List.range p).map (heapF os p i))) ⟨_, rfl, hN⟩ ?_ ?_
    · rintro i _ H' hi ⟨x3, rfl, zs, n1, sH, hz1, hz2, hz3⟩
      have hzl : zs.length = p := by simpa using congrArg List.length hz3
      have hm : i % p < p := Nat.mod_lt _ h1
      obtain ⟨z, hzi⟩ : ∃ z, zs[i % p]? = some z := ⟨_, List.getElem?_eq_getElem (by omega)⟩
      have hzm : z ∈ zs := List.mem_of_getElem? hzi
      have hrow := hz2 z hzm
      have he : z.2 = heapF os p i (i % p) := by
        have h5 := congrArg (fun l => l[i % p]?) hz3
        simp only [List.getElem?_map] at h5
        rw [hzi, List.getElem?_eq_getElem (by simp; omega), List.getElem_range] at h5
        exact Option.some.inj h5
      have hrl : z.2.length ≤ 60 := by
        rw [he]
        have := heap_len os p i (i % p)
        omega
      obtain ⟨hrow1, hrow2⟩ := hrow
      unfold t_l_dealt_b1
      refine c_asg (c_op (c_lst (c_cons (c_op (c_var rfl (c_var rfl (c_ixL (v := vN (os.getD i 0)) (sl_same sH hs) (at_DN (tn_nat i) (by omega) hi) (c_nil (c_kLst (by simp) fun u H2 hu s2 hu2 => ?_)))))))))
      refine c_op (c_var rfl (c_op (c_var rfl (c_var rfl (c_mod (by omega) ?_)))))
      refine c_ixL (v := .ref z.1) (sl_of (s2 _ _ hz1)) (at_map (f := vA) hzi rfl) ?_
      refine c_cat hu2 (s2 _ _ hrow2) (by simp; omega) fun w H3 hw s3 hw3 => ?_
      refine c_gsub (c_var rfl (c_op (c_var rfl (c_var rfl (c_mod (by omega) ?_)))))
      refine c_setL (m := i % p) (s3 _ _ (s2 _ _ hz1)) ?_ fun H4 e4 hw4 => ?_
      · rw [List.length_map, hzl]
        have e : ((i : Int) % (p : Int)) = ((i % p : Nat) : Int) := rfl
        rw [e, ixN_nat (by omega) (by omega), Int.toNat_natCast]
      · have hwp : w ≠ hp := ne_new (s2 _ _ hz1) hw
        refine ⟨_, rfl, zs.set (i % p) (w, os.getD i 0 :: z.2), n1, same_of_but n1 ((sH.trans s2).trans s3) e4, ?_, fun y hy => ?_, ?_⟩
        · rw [hw4, List.map_set]
        · rcases List.mem_or_eq_of_mem_set hy with hy | hy
          · exact ⟨(hz2 y hy).1, e4 _ _ (hz2 y hy).1 (s3 _ _ (s2 _ _ (hz2 y hy).2))⟩
          · subst hy
            exact ⟨hwp, e4 _ _ hwp hw3⟩
        · rw [List.map_set, hz3, ← heaps_set h1, he]
    · rintro _ H' ⟨x3, rfl, zs, n1, sH, hz1, hz2, hz3⟩
      have hzl : zs.length = p := by simpa using congrArg List.length hz3
      have hzs : ∀ z ∈ zs, z.2.length ≤ 60 := fun z hz => by
        have : z.2 ∈ zs.map (·.2) := List.mem_map.mpr ⟨z, hz, rfl⟩
        rw [hz3] at this
        obtain ⟨j, _, e⟩ := List.mem_map.mp this
        rw [← e]
        have := heap_len os p os.length j
        omega
      walk_at "go"
      rename_i m0 H2 hm0 s2 hm2
      refine l_forM (f := vA) (ns := zs) (sl_of (s2 _ _ hz1)) (fun pre σ' H' => ∃ x5 m, σ' = [some (.ref a), some (vN p), some (.ref hp), x3, some (.ref m), x5] ∧ H m = none ∧ Same H2 H' ∧ H' m = some (.lst ((((pre.map (·.2)).reverse.flatten)).map vN))) ⟨_, _, rfl, none_of_same hm0 sH, Same.refl _, hm2⟩ (fun pre post σ' H' _ ⟨_, _, _, _, s, _⟩ => sl_of (s _ _ (s2 _ _ hz1))) ?_ ?_
      · rintro pre z post _ H3 e ⟨x5, m, rfl, hm, s3, hm3⟩
        have hzm : z ∈ zs := by rw [e]; simp
        have hz4 := s3 _ _ (s2 _ _ (hz2 z hzm).2)
        have h5 := hzs z hzm
        have hpl : ((pre.map (·.2)).reverse.flatten).length ≤ 60 * 60 := by
          have hb : ∀ l : List (Addr × List Nat), (∀ z ∈ l, z.2.length ≤ 60) → ((l.map (·.2)).reverse.flatten).length ≤ l.length * 60 := fun l => by
            induction l with
            | nil => intro _; simp
            | cons y l ih =>
              intro hy
              have h6 := ih fun z hz => hy z (List.mem_cons_of_mem _ hz)
              have h7 := hy y (List.mem_cons_self ..)
              rw [List.map_cons, List.reverse_cons, List.flatten_append, List.length_append, List.length_cons, Nat.succ_mul]
              simp only [List.flatten_cons, List.flatten_nil, List.append_nil]
              omega
          have h6 := hb pre fun z hz => hzs z (by rw [e]; simp [hz])
          have h7 : pre.length ≤ 60 := by
            have := congrArg List.length e
            simp at this
            omega
          have := Nat.mul_le_mul_right 60 h7
          omega
        have hst : ((pre ++ [z]).map (·.2)).reverse.flatten = z.2 ++ (pre.map (·.2)).reverse.flatten := by
          rw [List.map_append, List.reverse_append]
          rfl
        rw [hst]
        generalize (pre.map (·.2)).reverse.flatten = fl at *
        obtain ⟨q, r⟩ := z
        have h8 : r.length ≤ 60 := h5
        unfold t_l_dealt_b2
        refine c_asg (c_op (c_var rfl (c_var rfl (c_cat hz4 hm3 (by simp; omega) fun w H4 hw s4 hw4 => c_gn4 ?_))))
        refine ⟨_, _, rfl, none_of_same hw (sH.trans (s2.trans s3)), s3.trans s4, ?_⟩
        rw [hw4, List.map_append]
      · rintro _ H3 ⟨x5, m, rfl, hm, s3, hm3⟩
        rw [hz3, deal_hand] at hm3
        walk_at "go"
        exact kk _ _ hm (sH.trans (s2.trans s3)) hm3
end Rf

set_option Elab.async false
set_option linter.all false
set_option maxRecDepth 100000
set_option maxHeartbeats 4000000
namespace Rf
open PySem PySem.Spec L2 Rm
local macro_rules | `(tactic| walk_at "ne") => `(tactic| first | assumption | (apply Ne.symm; assumption) | exact ne_new (by walk_at "hp") (by assumption) | exact ne_old (by walk_at "hp") (by assumption))
local macro_rules | `(tactic| walk_at "hp") => `(tactic| first | assumption | exact get_same (by assumption) (by walk_at "hp") | exact get_but (by assumption) (by walk_at "ne") (by walk_at "hp"))
local macro_rules | `(tactic| walk_at "sl") => `(tactic| first | assumption | exact sl_of (by assumption) | exact sl_same (by assumption) (by walk_at "sl") | exact sl_but (by assumption) (by walk_at "ne") (by walk_at "sl"))
local macro_rules | `(tactic| walk_at "st") => `(tactic| first | assumption | exact st_of (by assumption) | exact st_same (by assumption) (by walk_at "st") | exact st_but (by assumption) (by walk_at "ne") (by walk_at "st"))
local macro_rules | `(tactic| walk_at "sm") => `(tactic| first | assumption | exact Same.refl _ | exact same_tr (by assumption) (by walk_at "sm") | exact same_bt (by assumption) (by walk_at "fr") (by walk_at "sm"))
local macro_rules | `(tactic| walk_at "fr") => `(tactic| first | assumption | exact none_of_same (by assumption) (by walk_at "sm"))
local macro_rules | `(tactic| walk_at "dec") => `(tactic| first | rfl | assumption | omega | (simp only [decide_eq_true_eq, decide_eq_false_iff_not, Bool.not_eq_true', Bool.not_eq_false', Bool.not_true, Bool.not_false, Bool.and_eq_true, Bool.or_eq_true, Bool.and_eq_false_iff, Bool.or_eq_false_iff, Bool.not_eq_true, Bool.not_eq_false] <;> first | omega | assumption | rfl | (constructor <;> omega)))
local macro_rules | `(tactic| walk_at "len") => `(tactic| first | decide | omega | (simp only [List.length_append, List.length_cons, List.length_nil, List.length_map, List.length_range, List.length_reverse, List.length_set, List.length_take, List.length_drop] <;> omega) | (simp <;> omega))
local macro_rules | `(tactic| walk_at "s") => `(tactic| first
  | (with_reducible refine c_seq ?_)
  | (with_reducible refine c_asg ?_)
  | (with_reducible refine c_op ?_)
  | ((with_reducible refine' c_var ?hv ?_); (case hv => exact rfl))
  | (with_reducible refine c_c ?_)
  | (with_reducible refine c_cons ?_)
  | (with_reducible refine c_nil ?_)
  | (with_reducible refine c_and1 ?_)
  | (with_reducible refine c_shr1 ?_)
  | (with_reducible refine c_i0 ?_)
  | ((with_reducible refine' c_mul ?hv ?_); (case hv => omega))
  | ((with_reducible refine' c_div ?hv ?_); (case hv => omega))
  | ((with_reducible refine' c_mod ?hv ?_); (case hv => omega))
  | (with_reducible refine c_un ?_)
  | (with_reducible refine c_iU ?_)
  | (with_reducible refine c_call ?_)
  | (with_reducible refine c_tTest ?_)
  | (with_reducible refine c_tB ?_)
  | (with_reducible refine c_kB ?_)
  | (with_reducible refine c_ifS ?_)
  | (with_reducible refine c_gn0 ?_)
  | (with_reducible refine c_gn1 ?_)
  | (with_reducible refine c_gn2 ?_)
  | (with_reducible refine c_gn3 ?_)
  | (with_reducible refine c_gn4 ?_)
  | (with_reducible refine c_gn5 ?_)
  | (with_reducible refine c_gn6 ?_)
  | (with_reducible refine c_gn7 ?_)
  | (with_reducible refine c_gn8 ?_)
  | (with_reducible refine c_gnS ?_)
  | (with_reducible refine c_eqI ?_)
  | (with_reducible refine c_neI ?_)
  | (with_reducible refine c_eqS ?_)
  | (with_reducible refine c_neS ?_)
  | (with_reducible refine c_eqB ?_)
  | (with_reducible refine c_neB ?_)
  | (with_reducible refine c_and ?_)
  | (with_reducible refine c_or ?_)
  | (with_reducible refine c_not ?_)
  | (with_reducible refine c_andV ?_)
  | (with_reducible refine c_orV ?_)
  | (with_reducible refine c_notV ?_)
  | (with_reducible refine c_ifE ?_)
  | (with_reducible refine c_tYes ?_)
  | (with_reducible refine c_chain ?_)
  | ((with_reducible refine' c_chLe ?hv ?_ ?hm); (case hv => exact ⟨rfl, rfl⟩); (case hm => exact fun R R' hh q => hh _ _ q))
  | ((with_reducible refine' c_chLe ?hv ?_ ?hm); (case hv => exact ⟨_, rfl, rfl, rfl⟩); (case hm => exact fun R R' hh ⟨v, e, q⟩ => ⟨v, e, hh _ _ q⟩))
  | (with_reducible refine c_tup ?_)
  | (with_reducible refine c_lst ?_)
  | ((with_reducible refine' c_kTup ?hv ?_); (case hv => walk_at "len"); intro _ _ _ _ _)
  | ((with_reducible refine' c_kLst ?hv ?_); (case hv => walk_at "len"); intro _ _ _ _ _)
  | ((with_reducible refine' c_ixL ?hv ?ha ?_); (case hv => walk_at "sl"); (case ha => walk_at "at"))
  | ((with_reducible refine' c_ixT ?hv ?ha ?_); (case hv => walk_at "st"); (case ha => walk_at "at"))
  | ((with_reducible refine' c_cat ?hv ?ha ?hz ?_); (case hv => walk_at "hp"); (case ha => walk_at "hp"); (case hz => walk_at "len"); intro _ _ _ _ _)
  | ((with_reducible refine' c_addS ?hv ?_); (case hv => walk_at "len"))
  | (with_reducible refine c_sl ?_)
  | (with_reducible refine c_noP ?_)
  | (with_reducible refine c_part ?_)
  | (with_reducible refine c_kPart ?_)
  | ((with_reducible refine' c_slL ?hv ?_); (case hv => walk_at "sl"); intro _ _ _ _ _)
  | ((with_reducible refine' c_slX ?hv ?_); (case hv => walk_at "len"))
  | (with_reducible refine c_rev ?_)
  | ((with_reducible refine' c_kRev ?hv ?_); (case hv => walk_at "sl"); intro _ _ _ _ _)
  | (with_reducible refine c_CB ?_)
  | ((with_reducible refine' c_lenM ?hv ?_); (case hv => walk_at "sl"))
  | ((with_reducible refine' c_lenL ?hv ?_); (case hv => walk_at "sl"))
  | ((with_reducible refine' c_lenS ?hv ?_); (case hv => walk_at "len"))
  | ((with_reducible refine' c_listOf ?hv ?_); (case hv => walk_at "sl"); intro _ _ _ _ _)
  | (with_reducible refine c_min2 ?_)
  | (with_reducible refine c_listRg ?_)
  | (with_reducible refine c_rg1 ?_)
  | (with_reducible refine c_kRg1 ?_)
  | (with_reducible refine c_rg2 ?_)
  | (with_reducible refine c_kRg2 ?_)
  | ((with_reducible refine' c_kRgN ?hv ?_); (case hv => omega); intro _ _ _ _ _)
  | ((with_reducible refine' c_kRgN2 ?hv ?ha ?_); (case hv => omega); (case ha => omega); intro _ _ _ _ _)
  | ((with_reducible refine' c_kRg ?hv ?ha ?_); (case hv => omega); (case ha => omega); intro _ _ _ _ _)
  | (with_reducible refine c_lenSet ?_)
  | (with_reducible refine c_meth ?_)
  | (with_reducible refine c_methA ?_)
  | (with_reducible refine c_make ?_)
  | ((with_reducible refine c_makeO ?_); intro _ _ _ _ _ _)
  | (with_reducible refine c_fld ?_)
  | (with_reducible refine c_bm ?_)
  | (with_reducible refine c_bm0 ?_)
  | ((with_reducible refine' c_kBMl ?hv ?_); (case hv => walk_at "sl"))
  | ((with_reducible refine' c_kBM0l ?hv ?_); (case hv => walk_at "sl"))
  | (with_reducible refine c_kBMs ?_)
  | (with_reducible refine c_kBM0s ?_)
  | ((with_reducible refine' c_append ?hv ?hz ?_); (case hv => walk_at "hp"); (case hz => walk_at "len"); intro _ _ _)
  | ((with_reducible refine' c_extend ?hv ?ha ?hz ?_); (case hv => walk_at "hp"); (case ha => walk_at "hp"); (case hz => walk_at "len"); intro _ _ _)
  | ((with_reducible refine' c_reverse ?hv ?_); (case hv => walk_at "hp"); intro _ _ _)
  | ((with_reducible refine' c_clear ?hv ?_); (case hv => walk_at "hp"); intro _ _ _)
  | ((with_reducible refine' c_gtup ?hv ?ha ?_); (case hv => walk_at "st"); (case ha => exact rfl))
  | (with_reducible refine c_gnil ?_)
  | (with_reducible refine c_gcons ?_)
  | (with_reducible refine c_gsub ?_)
  | (with_reducible refine c_next ?_)
  | (with_reducible refine c_par ?_)
  | (with_reducible refine c_kPar ?_)
  | ((with_reducible refine' c_aug ?hv ?_); (case hv => exact rfl))
  | (with_reducible refine c_ipI ?_)
  | (with_reducible refine c_drop ?_)
  | (with_reducible refine c_ret ?_)
  | (with_reducible refine c_retN ?_)
  | (with_reducible refine c_sfld ?_)
  | (with_reducible refine c_forL ?_)
  | (with_reducible refine c_for1 ?_)
  | (with_reducible refine c_for2 ?_)
  | (with_reducible refine c_forS ?_)
  | (with_reducible refine c_forRev ?_)
  | (with_reducible refine c_lcL ?_)
  | (with_reducible refine c_lc1 ?_)
  | (refine if_f (by walk_at "dec") ?_)
  | (refine if_t (by walk_at "dec") ?_)
  | walk_at "own")
local macro_rules | `(tactic| walk_at "go") => `(tactic| repeat walk_at "s")

local macro_rules | `(tactic| walk_at "kit") => `(tactic| first | exact kit_int_int | exact kit_int_bool | exact kit_int_str | exact kit_int_list | exact kit_list_list | exact kit_list_int | exact kit_list_bool | exact kit_str_str | exact kit_str_int | exact kit_str_list | exact kit_bool_bool | exact kit_bool_int | exact kit_bool_list)
local macro_rules | `(tactic| walk_at "own") => `(tactic| first
  | ((with_reducible refine' c_isiI ?h3 ?_); (case h3 => walk_at "kit"))
  | ((with_reducible refine' c_isiL ?h1 ?h3 ?_); (case h1 => walk_at "sl"); (case h3 => walk_at "kit"))
  | ((with_reducible refine' c_isiS ?h3 ?_); (case h3 => walk_at "kit"))
  | ((with_reducible refine' c_isiB ?h3 ?_); (case h3 => walk_at "kit"))
  | (with_reducible refine c_within ?_))
local macro_rules | `(tactic| walk_at "tn") => `(tactic| first | exact tn_nat _ | exact tn_add _ _ | exact tn_sub1 _ (by omega) | exact tn_sub _ _ (by omega) | exact rfl)
local macro_rules | `(tactic| walk_at "at") => `(tactic| first | exact at_DN (by walk_at "tn") (by omega) (by omega) | exact at_DI (by walk_at "tn") (by omega) (by omega) | rfl | assumption | exact at_map (by assumption) (by first | rfl | omega))


local macro_rules | `(tactic| walk_at "own") => `(tactic| first
  | ((with_reducible refine' c_cell_at ?h1 ?h2 ?_); (case h1 => walk_at "sl"); (case h2 => omega))
  | ((with_reducible refine' c_draw ?h1 ?h2 ?_); (case h1 => omega); (case h2 => omega); intro _ _)
  | ((with_reducible refine' c_inN ?h1 ?_); (case h1 => walk_at "sl"))
  | ((with_reducible refine' c_ninN ?h1 ?_); (case h1 => walk_at "sl"))
  | ((with_reducible refine' c_eqLst leaf_nat ?h1 ?h2 ?_); (case h1 => walk_at "sl"); (case h2 => walk_at "sl"))
  | ((with_reducible refine' c_neLst leaf_nat ?h1 ?h2 ?_); (case h1 => walk_at "sl"); (case h2 => walk_at "sl")))

local macro_rules | `(tactic| walk_at "own") => `(tactic| first
  | ((with_reducible refine' c_drawB ?h1 ?h2 ?_); (case h1 => omega); (case h2 => omega); intro _ _ _ _)
  | (with_reducible refine c_dnew ?_; intro _ _ _ _ _)
  | (with_reducible refine c_dget ?_)
  | (with_reducible refine c_dput ?_)
  | (with_reducible refine c_eqSg ?_)
  | (with_reducible refine c_countW ?_)
  | ((with_reducible refine' c_stripW ?h1 ?_); (case h1 => omega))
  | ((with_reducible refine' c_setLN ?h1 ?h2 ?_); (case h1 => walk_at "hp"); (case h2 => walk_at "len"); intro _ _ _))
local macro_rules | `(tactic| walk_at "s") => `(tactic| first
  | ((with_reducible refine' c_slTk ?h1 ?h2 ?_); (case h1 => walk_at "sl"); (case h2 => walk_at "len"); intro _ _ _ _ _)
  | ((with_reducible refine' c_slD1 ?h1 ?h2 ?_); (case h1 => walk_at "sl"); (case h2 => walk_at "len"); intro _ _ _ _ _)
  | ((with_reducible refine' c_slDr ?h1 ?h2 ?_); (case h1 => walk_at "sl"); (case h2 => walk_at "len"); intro _ _ _ _ _))
local macro_rules | `(tactic| walk_at "at") => `(tactic| exact at_D0 (by omega))

local macro_rules | `(tactic| walk_at "own") => `(tactic| first
  | ((with_reducible refine' c_many ?h1 ?_); (case h1 => omega); intro _ _ _ _ _)
  | ((with_reducible refine' c_order ?h1 ?_); (case h1 => omega); intro _ _ _ _ _ _ _)
  | ((with_reducible refine' c_word ?h1 ?_); (case h1 => omega); intro _ _ _ _))

variable {K : PySem.W.Frag} {C : Cl} {vs : List V} {H : Hp} {Q : VK} {E : XK}
def t_l_under_b1 (K : PySem.W.Frag) (C : Cl) : TS := (tSeq (tDrop (tBM K "list" rAppend (tVar 2) (tCons (tBM K "list" rPopAt (tVar 1) (tCons (tC (.int 0)) tNil)) tNil))) (tIfS (tTest (tOp (rNeD K) (tVar 1) (tLst tNil))) (tDrop (tBM K "list" rAppend (tVar 1) (tCons (tBM K "list" rPopAt (tVar 1) (tCons (tC (.int 0)) tNil)) tNil))) tNext))
def t_l_under (K : PySem.W.Frag) (C : Cl) : TS := (tSeq (tPar 1 2 (tCons (tCB (rListOf K) (tCons (tVar 0) tNil)) (tCons (tLst tNil) tNil))) (tSeq (tWhile (tTest (tOp (rNeD K) (tVar 1) (tLst tNil))) (t_l_under_b1 K C)) (tRet (tRevL K (tVar 2)))))
abbrev n_l_under : List Str := ["_law_order_here", "_law_pack", "_law_down"]
theorem rd_l_under (h : sp_l_under K C vs H Q E) : t_l_under K C { nx := fun _ H' => Q .non H', rt := Q } (start n_l_under vs) H := by
  obtain ⟨a, os, rfl, hs, hl, kk⟩ := h
  show t_l_under K C _ [some (.ref a), none, none] H
  unfold t_l_under
  walk_at "go"
  rename_i l H1 hl0 s1 hl1 d H2 hd0 s2 hd2
  refine l_while (fun m σ' H' => ∃ pk dn, σ' = [some (.ref a), some (.ref l), some (.ref d)] ∧ Same H H' ∧ H' l = some (.lst (pk.map vN)) ∧ H' d = some (.lst (dn.reverse.map vN)) ∧ pk.length = m ∧ pk.length + dn.length = os.length ∧ underGo m pk dn = underGo os.length os []) os.length
    ⟨os, [], rfl, s1.trans s2, s2 _ _ hl1, hd2, rfl, by simp, rfl⟩ ?_ ?_
  · rintro m _ H' ⟨pk, dn, rfl, sH, hl2, hd3, hm, hn, hu⟩
    have hld : l ≠ d := ne_old hl1 hd0
    have hdl : d ≠ l := hld.symm
    have hd0' : H d = none := none_of_same hd0 s1
    walk_at "go"
    rename_i e0 H3 he s3 he3
    refine c_neLst leaf_nat (ys := []) (by walk_at "sl") (sl_of he3) ?_
    walk_at "go"
    refine if_n (fun h => ?_) (fun h => ?_)
    · obtain ⟨x, r, rfl⟩ : ∃ x r, pk = x :: r := by
        cases pk with
        | nil => exact absurd rfl h
        | cons x r => exact ⟨x, r, rfl⟩
      obtain ⟨m, rfl⟩ : ∃ m', m = m' + 1 := ⟨r.length, by simpa using hm.symm⟩
      have hu2 : underGo m (r.drop 1 ++ r.take 1) (x :: dn) = underGo os.length os [] := hu
      have hrl : r.length = m := by simpa using hm
      have hn2 : r.length + 1 + dn.length = os.length := hn
      have hl4 : H3 l = some (.lst (vN x :: r.map vN)) := s3 _ _ hl2
      unfold t_l_under_b1
      walk_at "go"
      refine c_pop0 hl4 fun H4 e4 hl5 => ?_
      walk_at "go"
      rename_i H5 e5 hd6 e1 H6 he1 s6 he6
      have hl6 : H5 l = some (.lst (r.map vN)) := e5 _ _ hld hl5
      have hd7 : H5 d = some (.lst ((x :: dn).reverse.map vN)) := by rw [hd6, List.reverse_cons, List.map_append]; rfl
      have s5 : Same H H5 := same_of_but hd0' (same_of_but hl0 (sH.trans s3) e4) e5
      refine c_neLst leaf_nat (ys := []) (sl_of (s6 _ _ hl6)) (sl_of he6) ?_
      walk_at "go"
      refine if_n (fun h2 => ?_) (fun h2 => ?_)
      · obtain ⟨y, r2, rfl⟩ : ∃ y r2, r = y :: r2 := by
          cases r with
          | nil => exact absurd rfl h2
          | cons y r2 => exact ⟨y, r2, rfl⟩
        have hl7 : H6 l = some (.lst (vN y :: r2.map vN)) := s6 _ _ hl6
        have hr2 : r2.length + 1 = m := hrl
        walk_at "go"
        refine c_pop0 hl7 fun H7 e7 hl8 => ?_
        walk_at "go"
        rename_i H8 e8 hl9
        refine ⟨m, by omega, r2 ++ [y], x :: dn, rfl, same_of_but hl0 (same_of_but hl0 (s5.trans s6) e7) e8, by rw [hl9, List.map_append]; rfl, e8 _ _ hdl (e7 _ _ hdl (s6 _ _ hd7)), by simp; omega, by simp at hn ⊢; omega, hu2⟩
      · subst h2
        have hm0 : m = 0 := hrl.symm
        subst hm0
        walk_at "go"
        exact ⟨0, by omega, [], x :: dn, rfl, s5.trans s6, s6 _ _ hl6, s6 _ _ hd7, rfl, by simp at hn ⊢; omega, hu2⟩
    · subst h
      have hm0 : m = 0 := hm.symm
      subst hm0
      have hdn : dn = underGo os.length os [] := hu
      rw [under_hand] at hdn
      walk_at "go"
      rename_i q H4 hq s4 hq4
      refine kk _ _ (none_of_same hq (sH.trans s3)) (sH.trans (s3.trans s4)) ?_
      rw [hq4, ← List.map_reverse, List.reverse_reverse, hdn]
  · exact fun σ H Q Q' hq ⟨v, e, h1, h2⟩ => ⟨v, e, h1, fun p hp => by
      obtain ⟨d, d', a1, a2, a3, a4, b, e, q⟩ := h2 p hp
      exact ⟨d, d', a1, a2, a3, a4, b, e, hq _ _ q⟩⟩
end Rf

set_option Elab.async false
set_option linter.all false
set_option maxRecDepth 100000
set_option maxHeartbeats 4000000
namespace Rf
open PySem PySem.Spec L2 Rm
local macro_rules | `(tactic| walk_at "ne") => `(tactic| first | assumption | (apply Ne.symm; assumption) | exact ne_new (by walk_at "hp") (by assumption) | exact ne_old (by walk_at "hp") (by assumption))
local macro_rules | `(tactic| walk_at "hp") => `(tactic| first | assumption | exact get_same (by assumption) (by walk_at "hp") | exact get_but (by assumption) (by walk_at "ne") (by walk_at "hp"))
local macro_rules | `(tactic| walk_at "sl") => `(tactic| first | assumption | exact sl_of (by assumption) | exact sl_same (by assumption) (by walk_at "sl") | exact sl_but (by assumption) (by walk_at "ne") (by walk_at "sl"))
local macro_rules | `(tactic| walk_at "st") => `(tactic| first | assumption | exact st_of (by assumption) | exact st_same (by assumption) (by walk_at "st") | exact st_but (by assumption) (by walk_at "ne") (by walk_at "st"))
local macro_rules | `(tactic| walk_at "sm") => `(tactic| first | assumption | exact Same.refl _ | exact same_tr (by assumption) (by walk_at "sm") | exact same_bt (by assumption) (by walk_at "fr") (by walk_at "sm"))
local macro_rules | `(tactic| walk_at "fr") => `(tactic| first | assumption | exact none_of_same (by assumption) (by walk_at "sm"))
local macro_rules | `(tactic| walk_at "dec") => `(tactic| first | rfl | assumption | omega | (simp only [decide_eq_true_eq, decide_eq_false_iff_not, Bool.not_eq_true', Bool.not_eq_false', Bool.not_true, Bool.not_false, Bool.and_eq_true, Bool.or_eq_true, Bool.and_eq_false_iff, Bool.or_eq_false_iff, Bool.not_eq_true, Bool.not_eq_false] <;> first | omega | assumption | rfl | (constructor <;> omega)))
local macro_rules | `(tactic| walk_at "len") => `(tactic| first | decide | omega | (simp only [List.length_append, List.length_cons, List.length_nil, List.length_map, List.length_range, List.length_reverse, List.length_set, List.length_take, List.length_drop] <;> omega) | (simp <;> omega))
local macro_rules | `(tactic| walk_at "s") => `(tactic| first
  | (with_reducible refine c_seq ?_)
  | (with_reducible refine c_asg ?_)
  | (with_reducible refine c_op ?_)
  | ((with_reducible refine' c_var ?hv ?_); (case hv => exact rfl))
  | (with_reducible refine c_c ?_)
  | (with_reducible refine c_cons ?_)
  | (with_reducible refine c_nil ?_)
  | (with_reducible refine c_and1 ?_)
  | (with_reducible refine c_shr1 ?_)
  | (with_reducible refine c_i0 ?_)
  | ((with_reducible refine' c_mul ?hv ?_); (case hv => omega))
  | ((with_reducible refine' c_div ?hv ?_); (case hv => omega))
  | ((with_reducible refine' c_mod ?hv ?_); (case hv => omega))
  | (with_reducible refine c_un ?_)
  | (with_reducible refine c_iU ?_)
  | (with_reducible refine c_call ?_)
  | (with_reducible refine c_tTest ?_)
  | (with_reducible refine c_tB ?_)
  | (with_reducible refine c_kB ?_)
  | (with_reducible refine c_ifS ?_)
  | (with_reducible refine c_gn0 ?_)
  | (with_reducible refine c_gn1 ?_)
  | (with_reducible refine c_gn2 ?_)
  | (with_reducible refine c_gn3 ?_)
  | (with_reducible refine c_gn4 ?_)
  | (with_reducible refine c_gn5 ?_)
  | (with_reducible refine c_gn6 ?_)
  | (with_reducible refine c_gn7 ?_)
  | (with_reducible refine c_gn8 ?_)
  | (with_reducible refine c_gnS ?_)
  | (with_reducible refine c_eqI ?_)
  | (with_reducible refine c_neI ?_)
  | (with_reducible refine c_eqS ?_)
  | (with_reducible refine c_neS ?_)
  | (with_reducible refine c_eqB ?_)
  | (with_reducible refine c_neB ?_)
  | (with_reducible refine c_and ?_)
  | (with_reducible refine c_or ?_)
  | (with_reducible refine c_not ?_)
  | (with_reducible refine c_andV ?_)
  | (with_reducible refine c_orV ?_)
  | (with_reducible refine c_notV ?_)
  | (with_reducible refine c_ifE ?_)
  | (with_reducible refine c_tYes ?_)
  | (with_reducible refine c_chain ?_)
  | ((with_reducible refine' c_chLe ?hv ?_ ?hm); (case hv => exact ⟨rfl, rfl⟩); (case hm => exact fun R R' hh q => hh _ _ q))
  | ((with_reducible refine' c_chLe ?hv ?_ ?hm); (case hv => exact ⟨_, rfl, rfl, rfl⟩); (case hm => exact fun R R' hh ⟨v, e, q⟩ => ⟨v, e, hh _ _ q⟩))
  | (with_reducible refine c_tup ?_)
  | (with_reducible refine c_lst ?_)
  | ((with_reducible refine' c_kTup ?hv ?_); (case hv => walk_at "len"); intro _ _ _ _ _)
  | ((with_reducible refine' c_kLst ?hv ?_); (case hv => walk_at "len"); intro _ _ _ _ _)
  | ((with_reducible refine' c_ixL ?hv ?ha ?_); (case hv => walk_at "sl"); (case ha => walk_at "at"))
  | ((with_reducible refine' c_ixT ?hv ?ha ?_); (case hv => walk_at "st"); (case ha => walk_at "at"))
  | ((with_reducible refine' c_cat ?hv ?ha ?hz ?_); (case hv => walk_at "hp"); (case ha => walk_at "hp"); (case hz => walk_at "len"); intro _ _ _ _ _)
  | ((with_reducible refine' c_addS ?hv ?_); (case hv => walk_at "len"))
  | (with_reducible refine c_sl ?_)
  | (with_reducible refine c_noP ?_)
  | (with_reducible refine c_part ?_)
  | (with_reducible refine c_kPart ?_)
  | ((with_reducible refine' c_slL ?hv ?_); (case hv => walk_at "sl"); intro _ _ _ _ _)
  | ((with_reducible refine' c_slX ?hv ?_); (case hv => walk_at "len"))
  | (with_reducible refine c_rev ?_)
  | ((with_reducible refine' c_kRev ?hv ?_); (case hv => walk_at "sl"); intro _ _ _ _ _)
  | (with_reducible refine c_CB ?_)
  | ((with_reducible refine' c_lenM ?hv ?_); (case hv => walk_at "sl"))
  | ((with_reducible refine' c_lenL ?hv ?_); (case hv => walk_at "sl"))
  | ((with_reducible refine' c_lenS ?hv ?_); (case hv => walk_at "len"))
  | ((with_reducible refine' c_listOf ?hv ?_); (case hv => walk_at "sl"); intro _ _ _ _ _)
  | (with_reducible refine c_min2 ?_)
  | (with_reducible refine c_listRg ?_)
  | (with_reducible refine c_rg1 ?_)
  | (with_reducible refine c_kRg1 ?_)
  | (with_reducible refine c_rg2 ?_)
  | (with_reducible refine c_kRg2 ?_)
  | ((with_reducible refine' c_kRgN ?hv ?_); (case hv => omega); intro _ _ _ _ _)
  | ((with_reducible refine' c_kRgN2 ?hv ?ha ?_); (case hv => omega); (case ha => omega); intro _ _ _ _ _)
  | ((with_reducible refine' c_kRg ?hv ?ha ?_); (case hv => omega); (case ha => omega); intro _ _ _ _ _)
  | (with_reducible refine c_lenSet ?_)
  | (with_reducible refine c_meth ?_)
  | (with_reducible refine c_methA ?_)
  | (with_reducible refine c_make ?_)
  | ((with_reducible refine c_makeO ?_); intro _ _ _ _ _ _)
  | (with_reducible refine c_fld ?_)
  | (with_reducible refine c_bm ?_)
  | (with_reducible refine c_bm0 ?_)
  | ((with_reducible refine' c_kBMl ?hv ?_); (case hv => walk_at "sl"))
  | ((with_reducible refine' c_kBM0l ?hv ?_); (case hv => walk_at "sl"))
  | (with_reducible refine c_kBMs ?_)
  | (with_reducible refine c_kBM0s ?_)
  | ((with_reducible refine' c_append ?hv ?hz ?_); (case hv => walk_at "hp"); (case hz => walk_at "len"); intro _ _ _)
  | ((with_reducible refine' c_extend ?hv ?ha ?hz ?_); (case hv => walk_at "hp"); (case ha => walk_at "hp"); (case hz => walk_at "len"); intro _ _ _)
  | ((with_reducible refine' c_reverse ?hv ?_); (case hv => walk_at "hp"); intro _ _ _)
  | ((with_reducible refine' c_clear ?hv ?_); (case hv => walk_at "hp"); intro _ _ _)
  | ((with_reducible refine' c_gtup ?hv ?ha ?_); (case hv => walk_at "st"); (case ha => exact rfl))
  | (with_reducible refine c_gnil ?_)
  | (with_reducible refine c_gcons ?_)
  | (with_reducible refine c_gsub ?_)
  | (with_reducible refine c_next ?_)
  | (with_reducible refine c_par ?_)
  | (with_reducible refine c_kPar ?_)
  | ((with_reducible refine' c_aug ?hv ?_); (case hv => exact rfl))
  | (with_reducible refine c_ipI ?_)
  | (with_reducible refine c_drop ?_)
  | (with_reducible refine c_ret ?_)
  | (with_reducible refine c_retN ?_)
  | (with_reducible refine c_sfld ?_)
  | (with_reducible refine c_forL ?_)
  | (with_reducible refine c_for1 ?_)
  | (with_reducible refine c_for2 ?_)
  | (with_reducible refine c_forS ?_)
  | (with_reducible refine c_forRev ?_)
  | (with_reducible refine c_lcL ?_)
  | (with_reducible refine c_lc1 ?_)
  | (refine if_f (by walk_at "dec") ?_)
  | (refine if_t (by walk_at "dec") ?_)
  | walk_at "own")
local macro_rules | `(tactic| walk_at "go") => `(tactic| repeat walk_at "s")

local macro_rules | `(tactic| walk_at "kit") => `(tactic| first | exact kit_int_int | exact kit_int_bool | exact kit_int_str | exact kit_int_list | exact kit_list_list | exact kit_list_int | exact kit_list_bool | exact kit_str_str | exact kit_str_int | exact kit_str_list | exact kit_bool_bool | exact kit_bool_int | exact kit_bool_list)
local macro_rules | `(tactic| walk_at "own") => `(tactic| first
  | ((with_reducible refine' c_isiI ?h3 ?_); (case h3 => walk_at "kit"))
  | ((with_reducible refine' c_isiL ?h1 ?h3 ?_); (case h1 => walk_at "sl"); (case h3 => walk_at "kit"))
  | ((with_reducible refine' c_isiS ?h3 ?_); (case h3 => walk_at "kit"))
  | ((with_reducible refine' c_isiB ?h3 ?_); (case h3 => walk_at "kit"))
  | (with_reducible refine c_within ?_))
local macro_rules | `(tactic| walk_at "tn") => `(tactic| first | exact tn_nat _ | exact tn_add _ _ | exact tn_sub1 _ (by omega) | exact tn_sub _ _ (by omega) | exact rfl)
local macro_rules | `(tactic| walk_at "at") => `(tactic| first | exact at_DN (by walk_at "tn") (by omega) (by omega) | exact at_DI (by walk_at "tn") (by omega) (by omega) | rfl | assumption | exact at_map (by assumption) (by first | rfl | omega))


local macro_rules | `(tactic| walk_at "own") => `(tactic| first
  | ((with_reducible refine' c_cell_at ?h1 ?h2 ?_); (case h1 => walk_at "sl"); (case h2 => omega))
  | ((with_reducible refine' c_draw ?h1 ?h2 ?_); (case h1 => omega); (case h2 => omega); intro _ _)
  | ((with_reducible refine' c_inN ?h1 ?_); (case h1 => walk_at "sl"))
  | ((with_reducible refine' c_ninN ?h1 ?_); (case h1 => walk_at "sl"))
  | ((with_reducible refine' c_eqLst leaf_nat ?h1 ?h2 ?_); (case h1 => walk_at "sl"); (case h2 => walk_at "sl"))
  | ((with_reducible refine' c_neLst leaf_nat ?h1 ?h2 ?_); (case h1 => walk_at "sl"); (case h2 => walk_at "sl")))

local macro_rules | `(tactic| walk_at "own") => `(tactic| first
  | ((with_reducible refine' c_drawB ?h1 ?h2 ?_); (case h1 => omega); (case h2 => omega); intro _ _ _ _)
  | (with_reducible refine c_dnew ?_; intro _ _ _ _ _)
  | (with_reducible refine c_dget ?_)
  | (with_reducible refine c_dput ?_)
  | (with_reducible refine c_eqSg ?_)
  | (with_reducible refine c_countW ?_)
  | ((with_reducible refine' c_stripW ?h1 ?_); (case h1 => omega))
  | ((with_reducible refine' c_setLN ?h1 ?h2 ?_); (case h1 => walk_at "hp"); (case h2 => walk_at "len"); intro _ _ _))
local macro_rules | `(tactic| walk_at "s") => `(tactic| first
  | ((with_reducible refine' c_slTk ?h1 ?h2 ?_); (case h1 => walk_at "sl"); (case h2 => walk_at "len"); intro _ _ _ _ _)
  | ((with_reducible refine' c_slD1 ?h1 ?h2 ?_); (case h1 => walk_at "sl"); (case h2 => walk_at "len"); intro _ _ _ _ _)
  | ((with_reducible refine' c_slDr ?h1 ?h2 ?_); (case h1 => walk_at "sl"); (case h2 => walk_at "len"); intro _ _ _ _ _))
local macro_rules | `(tactic| walk_at "at") => `(tactic| exact at_D0 (by omega))

local macro_rules | `(tactic| walk_at "own") => `(tactic| first
  | ((with_reducible refine' c_many ?h1 ?_); (case h1 => omega); intro _ _ _ _ _)
  | ((with_reducible refine' c_order ?h1 ?_); (case h1 => omega); intro _ _ _ _ _ _ _)
  | ((with_reducible refine' c_word ?h1 ?_); (case h1 => omega); intro _ _ _ _))

variable {K : PySem.W.Frag} {C : Cl} {vs : List V} {H : Hp} {Q : VK} {E : XK}
def t_l_moved (K : PySem.W.Frag) (C : Cl) : TS := (tSeq (tAsg (tVar 1) (gTup K 2 (gCons (gName 2) (gCons (gName 3) gNil)))) (tSeq (tIfS (tTest (tOp rEq (tVar 2) (tC (.int 0)))) (tRet (tOp rCat (tSl (rSlL K) (tVar 0) (tPart (tVar 3)) tNoPart) (tSl (rSlL K) (tVar 0) tNoPart (tPart (tVar 3))))) tNext) (tSeq (tIfS (tTest (tOp rEq (tVar 2) (tC (.int 1)))) (tRet (tRevL K (tVar 0))) tNext) (tSeq (tIfS (tTest (tOp rEq (tVar 2) (tC (.int 2)))) (tRet (tCall (sp_l_dealt K C) [] C8.E0 (tCons (tVar 0) (tCons (tVar 3) tNil)))) tNext) (tSeq (tIfS (tTest (tOp rEq (tVar 2) (tC (.int 3)))) (tRet (tCall (sp_l_under K C) [] C8.E0 (tCons (tVar 0) tNil))) tNext) (tSeq (tIfS (tTest (tOp rEq (tVar 2) (tC (.int 4)))) (tRet (tCall (sp_l_riffled K C) [] C8.E0 (tCons (tVar 0) (tCons (tOp rMulS (tOp (rIxT K) (tTup (tCons (tC (.str "ab")) (tCons (tC (.str "ba")) tNil))) (tVar 3)) (tOp oDiv (tCB (rLenQ K) (tCons (tVar 0) tNil)) (tC (.int 2)))) tNil)))) tNext) (tRet (tCall (sp_l_riffled K C) [] C8.E0 (tCons (tVar 0) (tCons (tVar 3) tNil))))))))))
abbrev n_l_moved : List Str := ["_law_order_here", "_law_told_here", "_law_sort", "_law_thing"]
theorem rd_l_moved (h : sp_l_moved K C vs H Q E) : t_l_moved K C { nx := fun _ H' => Q .non H', rt := Q } (start n_l_moved vs) H := by
  obtain ⟨a, t, os, m, rfl, hs, ht, hl, hok, hfit, kk⟩ := h
  show t_l_moved K C _ [some (.ref a), some (.ref t), none, none] H
  unfold t_l_moved
  cases m with
  | cut k =>
    have ht : SqT K H t [vN 0, vN k] := ht
    have hk : k ≤ os.length := hfit
    walk_at "go"
    rename_i q H2 hq s2 hq2
    refine kk _ _ (by walk_at "fr") (by walk_at "sm") ?_
    rw [hq2, ← List.map_append, cut_hand hk]
    rfl
  | turn =>
    have ht : SqT K H t [vN 1, .int 0] := ht
    walk_at "go"
    rename_i q H2 hq s2 hq2
    refine kk _ _ (by walk_at "fr") (by walk_at "sm") ?_
    rw [hq2, ← List.map_reverse, turn_hand os]
    rfl
  | deal k =>
    have ht : SqT K H t [vN 2, vN k] := ht
    walk_at "go"
    exact c_dealt hs hl hok.1 hok.2 kk
  | under =>
    have ht : SqT K H t [vN 3, .int 0] := ht
    walk_at "go"
    exact c_under hs hl kk
  | weave f =>
    have ht : SqT K H t [vN 4, vN f] := ht
    have he : os.length % 2 = 0 := hfit
    have hf : f ≤ 1 := hok
    walk_at "go"
    rename_i q H2 hq s2 hq2
    refine c_ixT (v := .str (if f = 1 then "ba" else "ab")) (st_of hq2) ?_ ?_
    · have : f = 0 ∨ f = 1 := by omega
      rcases this with rfl | rfl <;> rfl
    · walk_at "go"
      have e : (os.length : Int) / 2 = ((os.length / 2 : Nat) : Int) := by omega
      rw [e]
      refine c_mulS (by omega) (by split <;> decide) ?_
      rw [repS_alt]
      walk_at "go"
      refine c_riffled (by walk_at "sl") (by rw [altW_len]; omega) (by rw [altW_len]; omega) fun r H3 hr s3 hr3 => ?_
      refine kk _ _ (by walk_at "fr") (by walk_at "sm") ?_
      rw [hr3, alt_came he]
      rfl
  | riffle w =>
    have ht : SqT K H t [vN 5, .str (wS w)] := ht
    have hw : w.length = os.length := hfit
    walk_at "go"
    exact c_riffled hs hw.symm (by omega) kk
end Rf

set_option Elab.async false
set_option linter.all false
set_option maxRecDepth 100000
set_option maxHeartbeats 4000000
namespace Rf
open PySem PySem.Spec L2 Rm
local macro_rules | `(tactic| walk_at "ne") => `(tactic| first | assumption | (apply Ne.symm; assumption) | exact ne_new (by walk_at "hp") (by assumption) | exact ne_old (by walk_at "hp") (by assumption))
local macro_rules | `(tactic| walk_at "hp") => `(tactic| first | assumption | exact get_same (by assumption) (by walk_at "hp") | exact get_but (by assumption) (by walk_at "ne") (by walk_at "hp"))
local macro_rules | `(tactic| walk_at "sl") => `(tactic| first | assumption | exact sl_of (by assumption) | exact sl_same (by assumption) (by walk_at "sl") | exact sl_but (by assumption) (by walk_at "ne") (by walk_at "sl"))
local macro_rules | `(tactic| walk_at "st") => `(tactic| first | assumption | exact st_of (by assumption) | exact st_same (by assumption) (by walk_at "st") | exact st_but (by assumption) (by walk_at "ne") (by walk_at "st"))
local macro_rules | `(tactic| walk_at "sm") => `(tactic| first | assumption | exact Same.refl _ | exact same_tr (by assumption) (by walk_at "sm") | exact same_bt (by assumption) (by walk_at "fr") (by walk_at "sm"))
local macro_rules | `(tactic| walk_at "fr") => `(tactic| first | assumption | exact none_of_same (by assumption) (by walk_at "sm"))
local macro_rules | `(tactic| walk_at "dec") => `(tactic| first | rfl | assumption | omega | (simp only [decide_eq_true_eq, decide_eq_false_iff_not, Bool.not_eq_true', Bool.not_eq_false', Bool.not_true, Bool.not_false, Bool.and_eq_true, Bool.or_eq_true, Bool.and_eq_false_iff, Bool.or_eq_false_iff, Bool.not_eq_true, Bool.not_eq_false] <;> first | omega | assumption | rfl | (constructor <;> omega)))
local macro_rules | `(tactic| walk_at "len") => `(tactic| first | decide | omega | (simp only [List.length_append, List.length_cons, List.length_nil, List.length_map, List.length_range, List.length_reverse, List.length_set, List.length_take, List.length_drop] <;> omega) | (simp <;> omega))
local macro_rules | `(tactic| walk_at "s") => `(tactic| first
  | (with_reducible refine c_seq ?_)
  | (with_reducible refine c_asg ?_)
  | (with_reducible refine c_op ?_)
  | ((with_reducible refine' c_var ?hv ?_); (case hv => exact rfl))
  | (with_reducible refine c_c ?_)
  | (with_reducible refine c_cons ?_)
  | (with_reducible refine c_nil ?_)
  | (with_reducible refine c_and1 ?_)
  | (with_reducible refine c_shr1 ?_)
  | (with_reducible refine c_i0 ?_)
  | ((with_reducible refine' c_mul ?hv ?_); (case hv => omega))
  | ((with_reducible refine' c_div ?hv ?_); (case hv => omega))
  | ((with_reducible refine' c_mod ?hv ?_); (case hv => omega))
  | (with_reducible refine c_un ?_)
  | (with_reducible refine c_iU ?_)
  | (with_reducible refine c_call ?_)
  | (with_reducible refine c_tTest ?_)
  | (with_reducible refine c_tB ?_)
  | (with_reducible refine c_kB ?_)
  | (with_reducible refine c_ifS ?_)
  | (with_reducible refine c_gn0 ?_)
  | (with_reducible refine c_gn1 ?_)
  | (with_reducible refine c_gn2 ?_)
  | (with_reducible refine c_gn3 ?_)
  | (with_reducible refine c_gn4 ?_)
  | (with_reducible refine c_gn5 ?_)
  | (with_reducible refine c_gn6 ?_)
  | (with_reducible refine c_gn7 ?_)
  | (with_reducible refine c_gn8 ?_)
  | (with_reducible refine c_gnS ?_)
  | (with_reducible refine c_eqI ?_)
  | (with_reducible refine c_neI ?_)
  | (with_reducible refine c_eqS ?_)
  | (with_reducible refine c_neS ?_)
  | (with_reducible refine c_eqB ?_)
  | (with_reducible refine c_neB ?_)
  | (with_reducible refine c_and ?_)
  | (with_reducible refine c_or ?_)
  | (with_reducible refine c_not ?_)
  | (with_reducible refine c_andV ?_)
  | (with_reducible refine c_orV ?_)
  | (with_reducible refine c_notV ?_)
  | (with_reducible refine c_ifE ?_)
  | (with_reducible refine c_tYes ?_)
  | (with_reducible refine c_chain ?_)
  | ((with_reducible refine' c_chLe ?hv ?_ ?hm); (case hv => exact ⟨rfl, rfl⟩); (case hm => exact fun R R' hh q => hh _ _ q))
  | ((with_reducible refine' c_chLe ?hv ?_ ?hm); (case hv => exact ⟨_, rfl, rfl, rfl⟩); (case hm => exact fun R R' hh ⟨v, e, q⟩ => ⟨v, e, hh _ _ q⟩))
  | (with_reducible refine c_tup ?_)
  | (with_reducible refine c_lst ?_)
  | ((with_reducible refine' c_kTup ?hv ?_); (case hv => walk_at "len"); intro _ _ _ _ _)
  | ((with_reducible refine' c_kLst ?hv ?_); (case hv => walk_at "len"); intro _ _ _ _ _)
  | ((with_reducible refine' c_ixL ?hv ?ha ?_); (case hv => walk_at "sl"); (case ha => walk_at "at"))
  | ((with_reducible refine' c_ixT ?hv ?ha ?_); (case hv => walk_at "st"); (case ha => walk_at "at"))
  | ((with_reducible refine' c_cat ?hv ?ha ?hz ?_); (case hv => walk_at "hp"); (case ha => walk_at "hp"); (case hz => walk_at "len"); intro _ _ _ _ _)
  | ((with_reducible refine' c_addS ?hv ?_); (case hv => walk_at "len"))
  | (with_reducible refine c_sl ?_)
  | (with_reducible refine c_noP ?_)
  | (with_reducible refine c_part ?_)
  | (with_reducible refine c_kPart ?_)
  | ((with_reducible refine' c_slL ?hv ?_); (case hv => walk_at "sl"); intro _ _ _ _ _)
  | ((with_reducible refine' c_slX ?hv ?_); (case hv => walk_at "len"))
  | (with_reducible refine c_rev ?_)
  | ((with_reducible refine' c_kRev ?hv ?_); (case hv => walk_at "sl"); intro _ _ _ _ _)
  | (with_reducible refine c_CB ?_)
  | ((with_reducible refine' c_lenM ?hv ?_); (case hv => walk_at "sl"))
  | ((with_reducible refine' c_lenL ?hv ?_); (case hv => walk_at "sl"))
  | ((with_reducible refine' c_lenS ?hv ?_); (case hv => walk_at "len"))
  | ((with_reducible refine' c_listOf ?hv ?_); (case hv => walk_at "sl"); intro _ _ _ _ _)
  | (with_reducible refine c_min2 ?_)
  | (with_reducible refine c_listRg ?_)
  | (with_reducible refine c_rg1 ?_)
  | (with_reducible refine c_kRg1 ?_)
  | (with_reducible refine c_rg2 ?_)
  | (with_reducible refine c_kRg2 ?_)
  | ((with_reducible refine' c_kRgN ?hv ?_); (case hv => omega); intro _ _ _ _ _)
  | ((with_reducible refine' c_kRgN2 ?hv ?ha ?_); (case hv => omega); (case ha => omega); intro _ _ _ _ _)
  | ((with_reducible refine' c_kRg ?hv ?ha ?_); (case hv => omega); (case ha => omega); intro _ _ _ _ _)
  | (with_reducible refine c_lenSet ?_)
  | (with_reducible refine c_meth ?_)
  | (with_reducible refine c_methA ?_)
  | (with_reducible refine c_make ?_)
  | ((with_reducible refine c_makeO ?_); intro _ _ _ _ _ _)
  | (with_reducible refine c_fld ?_)
  | (with_reducible refine c_bm ?_)
  | (with_reducible refine c_bm0 ?_)
  | ((with_reducible refine' c_kBMl ?hv ?_); (case hv => walk_at "sl"))
  | ((with_reducible refine' c_kBM0l ?hv ?_); (case hv => walk_at "sl"))
  | (with_reducible refine c_kBMs ?_)
  | (with_reducible refine c_kBM0s ?_)
  | ((with_reducible refine' c_append ?hv ?hz ?_); (case hv => walk_at "hp"); (case hz => walk_at "len"); intro _ _ _)
  | ((with_reducible refine' c_extend ?hv ?ha ?hz ?_); (case hv => walk_at "hp"); (case ha => walk_at "hp"); (case hz => walk_at "len"); intro _ _ _)
  | ((with_reducible refine' c_reverse ?hv ?_); (case hv => walk_at "hp"); intro _ _ _)
  | ((with_reducible refine' c_clear ?hv ?_); (case hv => walk_at "hp"); intro _ _ _)
  | ((with_reducible refine' c_gtup ?hv ?ha ?_); (case hv => walk_at "st"); (case ha => exact rfl))
  | (with_reducible refine c_gnil ?_)
  | (with_reducible refine c_gcons ?_)
  | (with_reducible refine c_gsub ?_)
  | (with_reducible refine c_next ?_)
  | (with_reducible refine c_par ?_)
  | (with_reducible refine c_kPar ?_)
  | ((with_reducible refine' c_aug ?hv ?_); (case hv => exact rfl))
  | (with_reducible refine c_ipI ?_)
  | (with_reducible refine c_drop ?_)
  | (with_reducible refine c_ret ?_)
  | (with_reducible refine c_retN ?_)
  | (with_reducible refine c_sfld ?_)
  | (with_reducible refine c_forL ?_)
  | (with_reducible refine c_for1 ?_)
  | (with_reducible refine c_for2 ?_)
  | (with_reducible refine c_forS ?_)
  | (with_reducible refine c_forRev ?_)
  | (with_reducible refine c_lcL ?_)
  | (with_reducible refine c_lc1 ?_)
  | (refine if_f (by walk_at "dec") ?_)
  | (refine if_t (by walk_at "dec") ?_)
  | walk_at "own")
local macro_rules | `(tactic| walk_at "go") => `(tactic| repeat walk_at "s")

local macro_rules | `(tactic| walk_at "kit") => `(tactic| first | exact kit_int_int | exact kit_int_bool | exact kit_int_str | exact kit_int_list | exact kit_list_list | exact kit_list_int | exact kit_list_bool | exact kit_str_str | exact kit_str_int | exact kit_str_list | exact kit_bool_bool | exact kit_bool_int | exact kit_bool_list)
local macro_rules | `(tactic| walk_at "own") => `(tactic| first
  | ((with_reducible refine' c_isiI ?h3 ?_); (case h3 => walk_at "kit"))
  | ((with_reducible refine' c_isiL ?h1 ?h3 ?_); (case h1 => walk_at "sl"); (case h3 => walk_at "kit"))
  | ((with_reducible refine' c_isiS ?h3 ?_); (case h3 => walk_at "kit"))
  | ((with_reducible refine' c_isiB ?h3 ?_); (case h3 => walk_at "kit"))
  | (with_reducible refine c_within ?_))
local macro_rules | `(tactic| walk_at "tn") => `(tactic| first | exact tn_nat _ | exact tn_add _ _ | exact tn_sub1 _ (by omega) | exact tn_sub _ _ (by omega) | exact rfl)
local macro_rules | `(tactic| walk_at "at") => `(tactic| first | exact at_DN (by walk_at "tn") (by omega) (by omega) | exact at_DI (by walk_at "tn") (by omega) (by omega) | rfl | assumption | exact at_map (by assumption) (by first | rfl | omega))


local macro_rules | `(tactic| walk_at "own") => `(tactic| first
  | ((with_reducible refine' c_cell_at ?h1 ?h2 ?_); (case h1 => walk_at "sl"); (case h2 => omega))
  | ((with_reducible refine' c_draw ?h1 ?h2 ?_); (case h1 => omega); (case h2 => omega); intro _ _)
  | ((with_reducible refine' c_inN ?h1 ?_); (case h1 => walk_at "sl"))
  | ((with_reducible refine' c_ninN ?h1 ?_); (case h1 => walk_at "sl"))
  | ((with_reducible refine' c_eqLst leaf_nat ?h1 ?h2 ?_); (case h1 => walk_at "sl"); (case h2 => walk_at "sl"))
  | ((with_reducible refine' c_neLst leaf_nat ?h1 ?h2 ?_); (case h1 => walk_at "sl"); (case h2 => walk_at "sl")))

local macro_rules | `(tactic| walk_at "own") => `(tactic| first
  | ((with_reducible refine' c_drawB ?h1 ?h2 ?_); (case h1 => omega); (case h2 => omega); intro _ _ _ _)
  | (with_reducible refine c_dnew ?_; intro _ _ _ _ _)
  | (with_reducible refine c_dget ?_)
  | (with_reducible refine c_dput ?_)
  | (with_reducible refine c_eqSg ?_)
  | (with_reducible refine c_countW ?_)
  | ((with_reducible refine' c_stripW ?h1 ?_); (case h1 => omega))
  | ((with_reducible refine' c_setLN ?h1 ?h2 ?_); (case h1 => walk_at "hp"); (case h2 => walk_at "len"); intro _ _ _))
local macro_rules | `(tactic| walk_at "s") => `(tactic| first
  | ((with_reducible refine' c_slTk ?h1 ?h2 ?_); (case h1 => walk_at "sl"); (case h2 => walk_at "len"); intro _ _ _ _ _)
  | ((with_reducible refine' c_slD1 ?h1 ?h2 ?_); (case h1 => walk_at "sl"); (case h2 => walk_at "len"); intro _ _ _ _ _)
  | ((with_reducible refine' c_slDr ?h1 ?h2 ?_); (case h1 => walk_at "sl"); (case h2 => walk_at "len"); intro _ _ _ _ _))
local macro_rules | `(tactic| walk_at "at") => `(tactic| exact at_D0 (by omega))

local macro_rules | `(tactic| walk_at "own") => `(tactic| first
  | ((with_reducible refine' c_many ?h1 ?_); (case h1 => omega); intro _ _ _ _ _)
  | ((with_reducible refine' c_order ?h1 ?_); (case h1 => omega); intro _ _ _ _ _ _ _)
  | ((with_reducible refine' c_word ?h1 ?_); (case h1 => omega); intro _ _ _ _))

variable {K : PySem.W.Frag} {C : Cl} {vs : List V} {H : Hp} {Q : VK} {E : XK}
def t_l_told (K : PySem.W.Frag) (C : Cl) : TS := (tSeq (tAsg (tCall (sp_l_draw K C) [] C8.E0 (tCons (tVar 0) (tCons (tC (.int 14)) (tCons (tC (.int 6)) tNil)))) (gName 2)) (tSeq (tIfS (tAnd (tTest (tOp rEq (tVar 2) (tC (.int 4)))) (tTest (tOp rEq (tOp oMod (tVar 1) (tC (.int 2))) (tC (.int 1))))) (tAsg (tC (.int 5)) (gName 2)) tNext) (tSeq (tIfS (tTest (tOp rEq (tVar 2) (tC (.int 0)))) (tRet (tTup (tCons (tC (.int 0)) (tCons (tCall (sp_l_draw K C) [] C8.E0 (tCons (tVar 0) (tCons (tC (.int 15)) (tCons (tOp oAdd (tVar 1) (tC (.int 1))) tNil)))) tNil)))) tNext) (tSeq (tIfS (tTest (tOp rEq (tVar 2) (tC (.int 2)))) (tRet (tTup (tCons (tC (.int 2)) (tCons (tOp oAdd (tC (.int 1)) (tCall (sp_l_draw K C) [] C8.E0 (tCons (tVar 0) (tCons (tC (.int 15)) (tCons (tOp (rIxT K) (tTup (tCons (tVar 1) (tCons (tC (.int 60)) tNil))) (tOp oDiv (tCall (sp_l_draw K C) [] C8.E0 (tCons (tVar 0) (tCons (tC (.int 16)) (tCons (tC (.int 4)) tNil)))) (tC (.int 3)))) tNil))))) tNil)))) tNext) (tSeq (tIfS (tTest (tOp rEq (tVar 2) (tC (.int 4)))) (tRet (tTup (tCons (tC (.int 4)) (tCons (tCall (sp_l_draw K C) [] C8.E0 (tCons (tVar 0) (tCons (tC (.int 15)) (tCons (tC (.int 2)) tNil)))) tNil)))) tNext) (tSeq (tIfS (tTest (tOp rEq (tVar 2) (tC (.int 5)))) (tRet (tTup (tCons (tC (.int 5)) (tCons (tCall (sp_l_word K C) [] C8.E0 (tCons (tVar 0) (tCons (tVar 1) tNil))) tNil)))) tNext) (tRet (tTup (tCons (tVar 2) (tCons (tC (.int 0)) tNil))))))))))
abbrev n_l_told : List Str := ["_law_cell", "_law_many_here", "_law_sort"]
def t_l_made (K : PySem.W.Frag) (C : Cl) : TS := (tSeq (tAsg (tVar 0) (gTup K 2 (gCons (gName 1) (gCons (gName 2) gNil)))) (tSeq (tIfS (tTest (tOp rEq (tVar 1) (tC (.int 0)))) (tRet (tMake C.cCut (sp_p_Cut_init K C) [] C8.E0 (tCons (tVar 2) tNil))) tNext) (tSeq (tIfS (tTest (tOp rEq (tVar 1) (tC (.int 1)))) (tRet (tMakeO C.cTurn)) tNext) (tSeq (tIfS (tTest (tOp rEq (tVar 1) (tC (.int 2)))) (tRet (tMake C.cDeal (sp_p_Deal_init K C) [] C8.E0 (tCons (tVar 2) tNil))) tNext) (tSeq (tIfS (tTest (tOp rEq (tVar 1) (tC (.int 3)))) (tRet (tMakeO C.cUnder)) tNext) (tSeq (tIfS (tTest (tOp rEq (tVar 1) (tC (.int 4)))) (tRet (tMake C.cWeave (sp_p_Weave_init K C) [] C8.E0 (tCons (tVar 2) tNil))) tNext) (tRet (tMake C.cRiffle (sp_p_Riffle_init K C) [] C8.E0 (tCons (tVar 2) tNil)))))))))
abbrev n_l_made : List Str := ["_law_told_here", "_law_sort", "_law_thing"]
theorem rd_l_told (h : sp_l_told K C vs H Q E) : t_l_told K C { nx := fun _ H' => Q .non H', rt := Q } (start n_l_told vs) H := by
  obtain ⟨c, n, rfl, h1, h60, kk⟩ := h
  show t_l_told K C _ [some (.int c), some (vN n), none] H
  unfold t_l_told
  walk_at "go"
  rename_i d H1 hd s1
  have : d = 0 ∨ d = 1 ∨ d = 2 ∨ d = 3 ∨ d = 4 ∨ d = 5 := by omega
  rcases this with rfl | rfl | rfl | rfl | rfl | rfl
  · walk_at "go"
    rename_i k H2 hk s2 t H3 ht s3 ht3
    exact kk (.cut k) _ _ (by show k ≤ 60; omega) (by show k ≤ n; omega) (by walk_at "fr") (by walk_at "sm") ht3
  · walk_at "go"
    rename_i t H3 ht s3 ht3
    exact kk .turn _ _ trivial trivial (by walk_at "fr") (by walk_at "sm") ht3
  · walk_at "go"
    rename_i u H2 hu s2 hu2 k H3 hk s3
    have hx : ∃ x : Nat, 1 ≤ x ∧ x ≤ 60 ∧ atI [vN n, V.int 60] ((k : Int) / 3) = some (vN x) := by
      have : k < 3 ∨ k = 3 := by omega
      rcases this with h | h
      · have e : (k : Int) / 3 = 0 := by omega
        rw [e]
        exact ⟨n, h1, h60, rfl⟩
      · subst h
        exact ⟨60, by decide, by decide, rfl⟩
    obtain ⟨x, hx1, hx60, hat⟩ := hx
    refine c_ixT (v := vN x) (by walk_at "st") hat ?_
    walk_at "go"
    rename_i k2 H4 hk2 s4 t H5 ht s5 ht5
    have e : (1 : Int) + (k2 : Int) = ((1 + k2 : Nat) : Int) := by omega
    rw [e] at ht5
    exact kk (.deal (1 + k2)) _ _ ⟨by omega, by omega⟩ trivial (by walk_at "fr") (by walk_at "sm") ht5
  · walk_at "go"
    rename_i t H3 ht s3 ht3
    exact kk .under _ _ trivial trivial (by walk_at "fr") (by walk_at "sm") ht3
  · walk_at "go"
    refine if_d (fun h => ?_) (fun h => ?_)
    · walk_at "go"
      rename_i w H2 hw s2 t H3 ht s3 ht3
      exact kk (.riffle w) _ _ ⟨by omega, by omega⟩ hw (by walk_at "fr") (by walk_at "sm") ht3
    · walk_at "go"
      rename_i k H2 hk s2 t H3 ht s3 ht3
      exact kk (.weave k) _ _ (by show k ≤ 1; omega) (by show n % 2 = 0; omega) (by walk_at "fr") (by walk_at "sm") ht3
  · walk_at "go"
    rename_i w H2 hw s2 t H3 ht s3 ht3
    exact kk (.riffle w) _ _ ⟨by omega, by omega⟩ hw (by walk_at "fr") (by walk_at "sm") ht3
theorem c_mkCut {n : Nat} (hav : C.av .cut) (hn : n ≤ 60) (k : ∀ x H', H x = none → Same H H' → MvAt C H' x (.cut n) → Q (.ref x) H') : kMake C.cCut (sp_p_Cut_init K C) E Q [vN n] H := fun x dx hx hd hne =>
  ⟨x, dx, vN n, rfl, upd_same, ⟨n, rfl, hn⟩, fun H' e1 e2 => ⟨rfl, k x H' hx (fun b o hb => e1 b o (ne_of_none hb hx) (by rw [upd_ne (ne_of_none hb hx), upd_ne (ne_of_none hb hd)]; exact hb)) ⟨hav, hn, dx, e2⟩⟩⟩
theorem c_mkDeal {n : Nat} (hav : C.av .deal) (hn : 1 ≤ n ∧ n ≤ 60) (k : ∀ x H', H x = none → Same H H' → MvAt C H' x (.deal n) → Q (.ref x) H') : kMake C.cDeal (sp_p_Deal_init K C) E Q [vN n] H := fun x dx hx hd hne =>
  ⟨x, dx, vN n, rfl, upd_same, ⟨n, rfl, hn⟩, fun H' e1 e2 => ⟨rfl, k x H' hx (fun b o hb => e1 b o (ne_of_none hb hx) (by rw [upd_ne (ne_of_none hb hx), upd_ne (ne_of_none hb hd)]; exact hb)) ⟨hav, hn, dx, e2⟩⟩⟩
theorem rd_l_made (hav : ∀ κ, C.av κ) (h : sp_l_made K C vs H Q E) : t_l_made K C { nx := fun _ H' => Q .non H', rt := Q } (start n_l_made vs) H := by
  obtain ⟨t, m, rfl, ht, hok, kk⟩ := h
  show t_l_made K C _ [some (.ref t), none, none] H
  unfold t_l_made
  cases m with
  | cut k =>
    have ht : SqT K H t [vN 0, vN k] := ht
    walk_at "go"
    exact c_mkCut (hav _) hok kk
  | turn =>
    have ht : SqT K H t [vN 1, .int 0] := ht
    walk_at "go"
    exact kk _ _ (by assumption) (by assumption) ⟨hav _, trivial, _, by assumption⟩
  | deal k =>
    have ht : SqT K H t [vN 2, vN k] := ht
    walk_at "go"
    exact c_mkDeal (hav _) hok kk
  | under =>
    have ht : SqT K H t [vN 3, .int 0] := ht
    walk_at "go"
    exact kk _ _ (by assumption) (by assumption) ⟨hav _, trivial, _, by assumption⟩
  | weave f =>
    have ht : SqT K H t [vN 4, vN f] := ht
    walk_at "go"
    exact c_mkWeave (hav _) hok kk
  | riffle w =>
    have ht : SqT K H t [vN 5, .str (wS w)] := ht
    walk_at "go"
    exact c_mkRiffle (hav _) hok.1 hok.2 kk
end Rf

set_option Elab.async false
set_option linter.all false
set_option maxRecDepth 100000
set_option maxHeartbeats 4000000
namespace Rf
open PySem PySem.Spec L2 Rm
local macro_rules | `(tactic| walk_at "ne") => `(tactic| first | assumption | (apply Ne.symm; assumption) | exact ne_new (by walk_at "hp") (by assumption) | exact ne_old (by walk_at "hp") (by assumption))
local macro_rules | `(tactic| walk_at "hp") => `(tactic| first | assumption | exact get_same (by assumption) (by walk_at "hp") | exact get_but (by assumption) (by walk_at "ne") (by walk_at "hp"))
local macro_rules | `(tactic| walk_at "sl") => `(tactic| first | assumption | exact sl_of (by assumption) | exact sl_same (by assumption) (by walk_at "sl") | exact sl_but (by assumption) (by walk_at "ne") (by walk_at "sl"))
local macro_rules | `(tactic| walk_at "st") => `(tactic| first | assumption | exact st_of (by assumption) | exact st_same (by assumption) (by walk_at "st") | exact st_but (by assumption) (by walk_at "ne") (by walk_at "st"))
local macro_rules | `(tactic| walk_at "sm") => `(tactic| first | assumption | exact Same.refl _ | exact same_tr (by assumption) (by walk_at "sm") | exact same_bt (by assumption) (by walk_at "fr") (by walk_at "sm"))
local macro_rules | `(tactic| walk_at "fr") => `(tactic| first | assumption | exact none_of_same (by assumption) (by walk_at "sm"))
local macro_rules | `(tactic| walk_at "dec") => `(tactic| first | rfl | assumption | omega | (simp only [decide_eq_true_eq, decide_eq_false_iff_not, Bool.not_eq_true', Bool.not_eq_false', Bool.not_true, Bool.not_false, Bool.and_eq_true, Bool.or_eq_true, Bool.and_eq_false_iff, Bool.or_eq_false_iff, Bool.not_eq_true, Bool.not_eq_false] <;> first | omega | assumption | rfl | (constructor <;> omega)))
local macro_rules | `(tactic| walk_at "len") => `(tactic| first | decide | omega | (simp only [List.length_append, List.length_cons, List.length_nil, List.length_map, List.length_range, List.length_reverse, List.length_set, List.length_take, List.length_drop] <;> omega) | (simp <;> omega))
local macro_rules | `(tactic| walk_at "s") => `(tactic| first
  | (with_reducible refine c_seq ?_)
  | (with_reducible refine c_asg ?_)
  | (with_reducible refine c_op ?_)
  | ((with_reducible refine' c_var ?hv ?_); (case hv => exact rfl))
  | (with_reducible refine c_c ?_)
  | (with_reducible refine c_cons ?_)
  | (with_reducible refine c_nil ?_)
  | (with_reducible refine c_and1 ?_)
  | (with_reducible refine c_shr1 ?_)
  | (with_reducible refine c_i0 ?_)
  | ((with_reducible refine' c_mul ?hv ?_); (case hv => omega))
  | ((with_reducible refine' c_div ?hv ?_); (case hv => omega))
  | ((with_reducible refine' c_mod ?hv ?_); (case hv => omega))
  | (with_reducible refine c_un ?_)
  | (with_reducible refine c_iU ?_)
  | (with_reducible refine c_call ?_)
  | (with_reducible refine c_tTest ?_)
  | (with_reducible refine c_tB ?_)
  | (with_reducible refine c_kB ?_)
  | (with_reducible refine c_ifS ?_)
  | (with_reducible refine c_gn0 ?_)
  | (with_reducible refine c_gn1 ?_)
  | (with_reducible refine c_gn2 ?_)
  | (with_reducible refine c_gn3 ?_)
  | (with_reducible refine c_gn4 ?_)
  | (with_reducible refine c_gn5 ?_)
  | (with_reducible refine c_gn6 ?_)
  | (with_reducible refine c_gn7 ?_)
  | (with_reducible refine c_gn8 ?_)
  | (with_reducible refine c_gnS ?_)
  | (with_reducible refine c_eqI ?_)
  | (with_reducible refine c_neI ?_)
  | (with_reducible refine c_eqS ?_)
  | (with_reducible refine c_neS ?_)
  | (with_reducible refine c_eqB ?_)
  | (with_reducible refine c_neB ?_)
  | (with_reducible refine c_and ?_)
  | (with_reducible refine c_or ?_)
  | (with_reducible refine c_not ?_)
  | (with_reducible refine c_andV ?_)
  | (with_reducible refine c_orV ?_)
  | (with_reducible refine c_notV ?_)
  | (with_reducible refine c_ifE ?_)
  | (with_reducible refine c_tYes ?_)
  | (with_reducible refine c_chain ?_)
  | ((with_reducible refine' c_chLe ?hv ?_ ?hm); (case hv => exact ⟨rfl, rfl⟩); (case hm => exact fun R R' hh q => hh _ _ q))
  | ((with_reducible refine' c_chLe ?hv ?_ ?hm); (case hv => exact ⟨_, rfl, rfl, rfl⟩); (case hm => exact fun R R' hh ⟨v, e, q⟩ => ⟨v, e, hh _ _ q⟩))
  | (with_reducible refine c_tup ?_)
  | (with_reducible refine c_lst ?_)
  | ((with_reducible refine' c_kTup ?hv ?_); (case hv => walk_at "len"); intro _ _ _ _ _)
  | ((with_reducible refine' c_kLst ?hv ?_); (case hv => walk_at "len"); intro _ _ _ _ _)
  | ((with_reducible refine' c_ixL ?hv ?ha ?_); (case hv => walk_at "sl"); (case ha => walk_at "at"))
  | ((with_reducible refine' c_ixT ?hv ?ha ?_); (case hv => walk_at "st"); (case ha => walk_at "at"))
  | ((with_reducible refine' c_cat ?hv ?ha ?hz ?_); (case hv => walk_at "hp"); (case ha => walk_at "hp"); (case hz => walk_at "len"); intro _ _ _ _ _)
  | ((with_reducible refine' c_addS ?hv ?_); (case hv => walk_at "len"))
  | (with_reducible refine c_sl ?_)
  | (with_reducible refine c_noP ?_)
  | (with_reducible refine c_part ?_)
  | (with_reducible refine c_kPart ?_)
  | ((with_reducible refine' c_slL ?hv ?_); (case hv => walk_at "sl"); intro _ _ _ _ _)
  | ((with_reducible refine' c_slX ?hv ?_); (case hv => walk_at "len"))
  | (with_reducible refine c_rev ?_)
  | ((with_reducible refine' c_kRev ?hv ?_); (case hv => walk_at "sl"); intro _ _ _ _ _)
  | (with_reducible refine c_CB ?_)
  | ((with_reducible refine' c_lenM ?hv ?_); (case hv => walk_at "sl"))
  | ((with_reducible refine' c_lenL ?hv ?_); (case hv => walk_at "sl"))
  | ((with_reducible refine' c_lenS ?hv ?_); (case hv => walk_at "len"))
  | ((with_reducible refine' c_listOf ?hv ?_); (case hv => walk_at "sl"); intro _ _ _ _ _)
  | (with_reducible refine c_min2 ?_)
  | (with_reducible refine c_listRg ?_)
  | (with_reducible refine c_rg1 ?_)
  | (with_reducible refine c_kRg1 ?_)
  | (with_reducible refine c_rg2 ?_)
  | (with_reducible refine c_kRg2 ?_)
  | ((with_reducible refine' c_kRgN ?hv ?_); (case hv => omega); intro _ _ _ _ _)
  | ((with_reducible refine' c_kRgN2 ?hv ?ha ?_); (case hv => omega); (case ha => omega); intro _ _ _ _ _)
  | ((with_reducible refine' c_kRg ?hv ?ha ?_); (case hv => omega); (case ha => omega); intro _ _ _ _ _)
  | (with_reducible refine c_lenSet ?_)
  | (with_reducible refine c_meth ?_)
  | (with_reducible refine c_methA ?_)
  | (with_reducible refine c_make ?_)
  | ((with_reducible refine c_makeO ?_); intro _ _ _ _ _ _)
  | (with_reducible refine c_fld ?_)
  | (with_reducible refine c_bm ?_)
  | (with_reducible refine c_bm0 ?_)
  | ((with_reducible refine' c_kBMl ?hv ?_); (case hv => walk_at "sl"))
  | ((with_reducible refine' c_kBM0l ?hv ?_); (case hv => walk_at "sl"))
  | (with_reducible refine c_kBMs ?_)
  | (with_reducible refine c_kBM0s ?_)
  | ((with_reducible refine' c_append ?hv ?hz ?_); (case hv => walk_at "hp"); (case hz => walk_at "len"); intro _ _ _)
  | ((with_reducible refine' c_extend ?hv ?ha ?hz ?_); (case hv => walk_at "hp"); (case ha => walk_at "hp"); (case hz => walk_at "len"); intro _ _ _)
  | ((with_reducible refine' c_reverse ?hv ?_); (case hv => walk_at "hp"); intro _ _ _)
  | ((with_reducible refine' c_clear ?hv ?_); (case hv => walk_at "hp"); intro _ _ _)
  | ((with_reducible refine' c_gtup ?hv ?ha ?_); (case hv => walk_at "st"); (case ha => exact rfl))
  | (with_reducible refine c_gnil ?_)
  | (with_reducible refine c_gcons ?_)
  | (with_reducible refine c_gsub ?_)
  | (with_reducible refine c_next ?_)
  | (with_reducible refine c_par ?_)
  | (with_reducible refine c_kPar ?_)
  | ((with_reducible refine' c_aug ?hv ?_); (case hv => exact rfl))
  | (with_reducible refine c_ipI ?_)
  | (with_reducible refine c_drop ?_)
  | (with_reducible refine c_ret ?_)
  | (with_reducible refine c_retN ?_)
  | (with_reducible refine c_sfld ?_)
  | (with_reducible refine c_forL ?_)
  | (with_reducible refine c_for1 ?_)
  | (with_reducible refine c_for2 ?_)
  | (with_reducible refine c_forS ?_)
  | (with_reducible refine c_forRev ?_)
  | (with_reducible refine c_lcL ?_)
  | (with_reducible refine c_lc1 ?_)
  | (refine if_f (by walk_at "dec") ?_)
  | (refine if_t (by walk_at "dec") ?_)
  | walk_at "own")
local macro_rules | `(tactic| walk_at "go") => `(tactic| repeat walk_at "s")

local macro_rules | `(tactic| walk_at "kit") => `(tactic| first | exact kit_int_int | exact kit_int_bool | exact kit_int_str | exact kit_int_list | exact kit_list_list | exact kit_list_int | exact kit_list_bool | exact kit_str_str | exact kit_str_int | exact kit_str_list | exact kit_bool_bool | exact kit_bool_int | exact kit_bool_list)
local macro_rules | `(tactic| walk_at "own") => `(tactic| first
  | ((with_reducible refine' c_isiI ?h3 ?_); (case h3 => walk_at "kit"))
  | ((with_reducible refine' c_isiL ?h1 ?h3 ?_); (case h1 => walk_at "sl"); (case h3 => walk_at "kit"))
  | ((with_reducible refine' c_isiS ?h3 ?_); (case h3 => walk_at "kit"))
  | ((with_reducible refine' c_isiB ?h3 ?_); (case h3 => walk_at "kit"))
  | (with_reducible refine c_within ?_))
local macro_rules | `(tactic| walk_at "tn") => `(tactic| first | exact tn_nat _ | exact tn_add _ _ | exact tn_sub1 _ (by omega) | exact tn_sub _ _ (by omega) | exact rfl)
local macro_rules | `(tactic| walk_at "at") => `(tactic| first | exact at_DN (by walk_at "tn") (by omega) (by omega) | exact at_DI (by walk_at "tn") (by omega) (by omega) | rfl | assumption | exact at_map (by assumption) (by first | rfl | omega))


local macro_rules | `(tactic| walk_at "own") => `(tactic| first
  | ((with_reducible refine' c_cell_at ?h1 ?h2 ?_); (case h1 => walk_at "sl"); (case h2 => omega))
  | ((with_reducible refine' c_draw ?h1 ?h2 ?_); (case h1 => omega); (case h2 => omega); intro _ _)
  | ((with_reducible refine' c_inN ?h1 ?_); (case h1 => walk_at "sl"))
  | ((with_reducible refine' c_ninN ?h1 ?_); (case h1 => walk_at "sl"))
  | ((with_reducible refine' c_eqLst leaf_nat ?h1 ?h2 ?_); (case h1 => walk_at "sl"); (case h2 => walk_at "sl"))
  | ((with_reducible refine' c_neLst leaf_nat ?h1 ?h2 ?_); (case h1 => walk_at "sl"); (case h2 => walk_at "sl")))

local macro_rules | `(tactic| walk_at "own") => `(tactic| first
  | ((with_reducible refine' c_drawB ?h1 ?h2 ?_); (case h1 => omega); (case h2 => omega); intro _ _ _ _)
  | (with_reducible refine c_dnew ?_; intro _ _ _ _ _)
  | (with_reducible refine c_dget ?_)
  | (with_reducible refine c_dput ?_)
  | (with_reducible refine c_eqSg ?_)
  | (with_reducible refine c_countW ?_)
  | ((with_reducible refine' c_stripW ?h1 ?_); (case h1 => omega))
  | ((with_reducible refine' c_setLN ?h1 ?h2 ?_); (case h1 => walk_at "hp"); (case h2 => walk_at "len"); intro _ _ _))
local macro_rules | `(tactic| walk_at "s") => `(tactic| first
  | ((with_reducible refine' c_slTk ?h1 ?h2 ?_); (case h1 => walk_at "sl"); (case h2 => walk_at "len"); intro _ _ _ _ _)
  | ((with_reducible refine' c_slD1 ?h1 ?h2 ?_); (case h1 => walk_at "sl"); (case h2 => walk_at "len"); intro _ _ _ _ _)
  | ((with_reducible refine' c_slDr ?h1 ?h2 ?_); (case h1 => walk_at "sl"); (case h2 => walk_at "len"); intro _ _ _ _ _))
local macro_rules | `(tactic| walk_at "at") => `(tactic| exact at_D0 (by omega))

local macro_rules | `(tactic| walk_at "own") => `(tactic| first
  | ((with_reducible refine' c_many ?h1 ?_); (case h1 => omega); intro _ _ _ _ _)
  | ((with_reducible refine' c_order ?h1 ?_); (case h1 => omega); intro _ _ _ _ _ _ _)
  | ((with_reducible refine' c_word ?h1 ?_); (case h1 => omega); intro _ _ _ _))

variable {K : PySem.W.Frag} {C : Cl} {vs : List V} {H : Hp} {Q : VK} {E : XK}
local macro_rules | `(tactic| walk_at "dec") => `(tactic| decide +kernel)
theorem c_raise {nx bk ct : L2.St → Hp → Prop} {rt : VK} {σ : L2.St} {c : Addr} (h : E (.ref c) none H) : tRaise E c ⟨nx, rt, bk, ct⟩ σ H := h
theorem and_skip {c : Bool} {A B : Prop} (k : B) (h : B → A) : if c = true then A else B := by
  split
  · exact h k
  · exact k
theorem ix_zero {l : List Nat} {c : Nat} (h : l.head? = some c) : atI l 0 = some c := by
  cases l with
  | nil => cases h
  | cons a l => exact atI_nat (j := 0) h
theorem one_is (c : Nat) : decide ((⟨#[c]⟩ : Str) = "0") = decide (c = 48) := by
  refine decide_eq_decide.mpr ⟨fun h => ?_, fun h => by rw [h]; rfl⟩
  have := congrArg (fun x : Str => x.cps.toList) h
  have h2 : ("0" : Str).cps.toList = [48] := by decide +kernel
  simp only [h2] at this
  simpa using this
def t_x_p_Cut_init (K : PySem.W.Frag) (C : Cl) (E : XK) : TS := (tSeq (tIfS (tNot (tB (tCall (sp_p_within K C) [] C8.E0 (tCons (tVar 1) (tCons (tC (.int 0)) (tCons (tC (.int 60)) tNil)))))) (tRaise E C.cBadMove) tNext) (sFld K (tVar 0) (tVar 1) "many"))
def t_x_p_Deal_init (K : PySem.W.Frag) (C : Cl) (E : XK) : TS := (tSeq (tIfS (tNot (tB (tCall (sp_p_within K C) [] C8.E0 (tCons (tVar 1) (tCons (tC (.int 1)) (tCons (tC (.int 60)) tNil)))))) (tRaise E C.cBadMove) tNext) (sFld K (tVar 0) (tVar 1) "piles"))
def t_x_p_Weave_init (K : PySem.W.Frag) (C : Cl) (E : XK) : TS := (tSeq (tIfS (tNot (tB (tCall (sp_p_within K C) [] C8.E0 (tCons (tVar 1) (tCons (tC (.int 0)) (tCons (tC (.int 1)) tNil)))))) (tRaise E C.cBadMove) tNext) (sFld K (tVar 0) (tVar 1) "first"))
def t_x_p_Riffle_init (K : PySem.W.Frag) (C : Cl) (E : XK) : TS := (tSeq (tIfS (tOr (tNot (tB (tCB (rIsi K) (tCons (tVar 1) (tCons (tC (.ty "str")) tNil))))) (tOr (tNot (tTest (tChain oLe oLe (tC (.int 1)) (tCB rLenS (tCons (tVar 1) tNil)) (tC (.int 60))))) (tTest (tOp rNe (tBM K "str" rStripS (tVar 1) (tCons (tC (.str "ab")) tNil)) (tC (.str "")))))) (tRaise E C.cBadMove) tNext) (sFld K (tVar 0) (tVar 1) "word"))
def t_x_p_number_in (K : PySem.W.Frag) (C : Cl) (E : XK) : TS := (tSeq (tIfS (tOr (tNot (tTest (tChain oLe oLe (tC (.int 1)) (tCB rLenS (tCons (tVar 0) tNil)) (tC (.int 2))))) (tOr (tTest (tOp rNe (tBM K "str" rStripS (tVar 0) (tCons (tC (.str "0123456789")) tNil)) (tC (.str "")))) (tAnd (tTest (tOp rEq (tOp rIxS (tVar 0) (tC (.int 0))) (tC (.str "0")))) (tTest (tOp rNe (tVar 0) (tC (.str "0"))))))) (tRaise E C.cBadText) tNext) (tRet (tCB rIntS (tCons (tVar 0) tNil))))
def t_x_p_move_in (K : PySem.W.Frag) (C : Cl) (E : XK) : TS := (tSeq (tIfS (tTest (tOp rEq (tVar 0) (tC (.str "turn")))) (tRet (tMakeO C.cTurn)) tNext) (tSeq (tIfS (tTest (tOp rEq (tVar 0) (tC (.str "under")))) (tRet (tMakeO C.cUnder)) tNext) (tSeq (tAsg (tBM K "str" rPartS (tVar 0) (tCons (tC (.str " ")) tNil)) (gTup K 3 (gCons (gName 1) (gCons (gName 2) (gCons (gName 3) gNil))))) (tSeq (tIfS (tAnd (tTest (tOp rEq (tVar 1) (tC (.str "cut")))) (tTest (tOp rNe (tVar 2) (tC (.str ""))))) (tRet (tMake C.cCut (sp_p_Cut_initX K C) [] E (tCons (tCall (sp_p_number_in K C) [] E (tCons (tVar 3) tNil)) tNil))) tNext) (tSeq (tIfS (tAnd (tTest (tOp rEq (tVar 1) (tC (.str "deal")))) (tTest (tOp rNe (tVar 2) (tC (.str ""))))) (tRet (tMake C.cDeal (sp_p_Deal_initX K C) [] E (tCons (tCall (sp_p_number_in K C) [] E (tCons (tVar 3) tNil)) tNil))) tNext) (tSeq (tIfS (tAnd (tTest (tOp rEq (tVar 1) (tC (.str "weave")))) (tTest (tOp rNe (tVar 2) (tC (.str ""))))) (tRet (tMake C.cWeave (sp_p_Weave_initX K C) [] E (tCons (tCall (sp_p_number_in K C) [] E (tCons (tVar 3) tNil)) tNil))) tNext) (tSeq (tIfS (tAnd (tTest (tOp rEq (tVar 1) (tC (.str "riffle")))) (tTest (tOp rNe (tVar 2) (tC (.str ""))))) (tRet (tMake C.cRiffle (sp_p_Riffle_initX K C) [] E (tCons (tVar 3) tNil))) tNext) (tRaise E C.cBadText))))))))
abbrev n_p_number_in : List Str := ["text"]
abbrev n_p_move_in : List Str := ["text", "word", "blank", "rest"]
theorem rd_x_p_Cut_init (F : CF K C) (hav : C.av .cut) (h : sp_p_Cut_initX K C vs H Q E) : t_x_p_Cut_init K C E { nx := fun _ H' => Q .non H', rt := Q } (start n_p_Cut_init vs) H := by
  obtain ⟨p, dx, n, rfl, hp, hh⟩ := h
  show t_x_p_Cut_init K C E _ [some (.ref p), some (vN n)] H
  unfold t_x_p_Cut_init
  rcases hh with ⟨hn, kk⟩ | ⟨hn, kk⟩
  · walk_at "go"
    exact c_kSFld hp (F.cls .cut hav) (F.nMany hav) (by decide) fun H' e1 e2 => kk H' e1 e2
  · walk_at "go"
    exact kk
theorem rd_x_p_Deal_init (F : CF K C) (hav : C.av .deal) (h : sp_p_Deal_initX K C vs H Q E) : t_x_p_Deal_init K C E { nx := fun _ H' => Q .non H', rt := Q } (start n_p_Deal_init vs) H := by
  obtain ⟨p, dx, n, rfl, hp, hh⟩ := h
  show t_x_p_Deal_init K C E _ [some (.ref p), some (vN n)] H
  unfold t_x_p_Deal_init
  rcases hh with ⟨hn, hn2, kk⟩ | ⟨hn, kk⟩
  · walk_at "go"
    exact c_kSFld hp (F.cls .deal hav) (F.nPiles hav) (by decide) fun H' e1 e2 => kk H' e1 e2
  · walk_at "go"
    exact kk
theorem rd_x_p_Weave_init (F : CF K C) (hav : C.av .weave) (h : sp_p_Weave_initX K C vs H Q E) : t_x_p_Weave_init K C E { nx := fun _ H' => Q .non H', rt := Q } (start n_p_Weave_init vs) H := by
  obtain ⟨p, dx, n, rfl, hp, hh⟩ := h
  show t_x_p_Weave_init K C E _ [some (.ref p), some (vN n)] H
  unfold t_x_p_Weave_init
  rcases hh with ⟨hn, kk⟩ | ⟨hn, kk⟩
  · walk_at "go"
    exact c_kSFld hp (F.cls .weave hav) (F.nFirst hav) (by decide) fun H' e1 e2 => kk H' e1 e2
  · walk_at "go"
    exact kk
theorem rd_x_p_Riffle_init (F : CF K C) (hav : C.av .riffle) (h : sp_p_Riffle_initX K C vs H Q E) : t_x_p_Riffle_init K C E { nx := fun _ H' => Q .non H', rt := Q } (start n_p_Riffle_init vs) H := by
  obtain ⟨p, dx, r, rfl, hr, hp, hh⟩ := h
  show t_x_p_Riffle_init K C E _ [some (.ref p), some (.str r)] H
  unfold t_x_p_Riffle_init
  refine c_seq (c_ifS (c_or (c_not (c_tB (c_CB (c_cons (c_var rfl (c_cons (c_c (c_nil (c_isiS kit_str_str (c_kB ?_))))))))))))
  refine if_f rfl (c_or (c_not (c_tTest (c_chain (c_c (c_CB (c_cons (c_var rfl (c_nil (c_lenS (by omega) (c_i0 (c_kCh (fun g1 => ?_) (fun g0 => ?_)))))))))))))
  · have g1 := of_decide_eq_true g1
    refine c_c (c_i0 (c_kB ?_))
    refine if_2 (fun h1 => ?_) (fun h1 => ?_)
    · have h1 : ¬ ((r.length : Int) ≤ 60) := by simpa using h1
      rcases hh with ⟨⟨hl, hs⟩, kk⟩ | ⟨hn, kk⟩
      · omega
      · exact if_t rfl (c_raise kk)
    · have h1 : (r.length : Int) ≤ 60 := by simpa using h1
      refine c_tTest (c_op (c_bm (c_var rfl (c_kBMs (c_cons (c_c (c_nil (c_stripS (by omega) (c_c (c_neS (c_kB ?_)))))))))))
      refine if_n (fun h2 => ?_) (fun h2 => ?_)
      · rcases hh with ⟨⟨hl, hs⟩, kk⟩ | ⟨hn, kk⟩
        · exact absurd hs h2
        · exact c_raise kk
      · rcases hh with ⟨⟨hl, hs⟩, kk⟩ | ⟨hn, kk⟩
        · refine c_next (c_sfld (c_var rfl (c_var rfl ?_)))
          exact c_kSFld hp (F.cls .riffle hav) (F.nWord hav) (by decide) fun H' e1 e2 => kk H' e1 e2
        · exact absurd ⟨⟨by omega, by omega⟩, h2⟩ hn
  · have g0 : ¬ ((1 : Int) ≤ (r.length : Int)) := of_decide_eq_false g0
    rcases hh with ⟨⟨hl, hs⟩, kk⟩ | ⟨hn, kk⟩
    · omega
    · exact ⟨false, rfl, if_t rfl (if_t rfl (c_raise kk))⟩
abbrev t_x_p_number_in_tail (K : PySem.W.Frag) (E : XK) : TS := tRet (tCB rIntS (tCons (tVar 0) tNil))
theorem rd_x_p_number_in (h : sp_p_number_in K C vs H Q E) : t_x_p_number_in K C E { nx := fun _ H' => Q .non H', rt := Q } (start n_p_number_in vs) H := by
  obtain ⟨r, rfl, hr, hh⟩ := h
  show t_x_p_number_in K C E _ [some (.str r)] H
  unfold t_x_p_number_in
  refine c_seq (c_ifS (c_or (c_not (c_tTest (c_chain (c_c (c_CB (c_cons (c_var rfl (c_nil (c_lenS (by omega) (c_i0 (c_kCh (fun g1 => ?_) (fun g0 => ?_))))))))))))))
  · have g1 := of_decide_eq_true g1
    refine c_c (c_i0 (c_kB ?_))
    refine if_2 (fun h1 => ?_) (fun h1 => ?_)
    · have h1 : ¬ ((r.length : Int) ≤ 2) := by simpa using h1
      rcases hh with ⟨n, ⟨hl, hs, hz⟩, hi, kk⟩ | ⟨hn, kk⟩
      · omega
      · exact if_t rfl (c_raise kk)
    · have h1 : (r.length : Int) ≤ 2 := by simpa using h1
      refine c_or (c_tTest (c_op (c_bm (c_var rfl (c_kBMs (c_cons (c_c (c_nil (c_stripS (by omega) (c_c (c_neS (c_kB ?_))))))))))))
      refine if_n (fun h2 => ?_) (fun h2 => ?_)
      · rcases hh with ⟨n, ⟨hl, hs, hz⟩, hi, kk⟩ | ⟨hn, kk⟩
        · exact absurd hs h2
        · exact if_t rfl (c_raise kk)
      · obtain ⟨c, hc⟩ : ∃ c, r.cps.toList.head? = some c := by
          have : r.length = r.cps.toList.length := by simp [Str.length]
          cases e : r.cps.toList with
          | nil => rw [e] at this; simp at this; omega
          | cons a l => exact ⟨a, rfl⟩
        refine c_and (c_tTest (c_op (c_op (c_var rfl (c_c (c_ixS (by omega) (ix_zero hc) (c_c (c_eqS (c_kB ?_)))))))))
        rw [one_is]
        have fin : DigOk r → t_x_p_number_in_tail K E { nx := fun _ H' => Q .non H', rt := Q } [some (.str r)] H := fun hd => by
          rcases hh with ⟨n, _, hi, kk⟩ | ⟨hn, kk⟩
          · exact c_ret (c_CB (c_cons (c_var rfl (c_nil (c_intS hi (by omega) kk)))))
          · exact absurd hd hn
        refine if_d (fun h3 => ?_) (fun h3 => ?_)
        · subst h3
          refine c_tTest (c_op (c_var rfl (c_c (c_neS (c_kB ?_)))))
          refine if_n (fun h4 => ?_) (fun h4 => ?_)
          · rcases hh with ⟨n, ⟨hl, hs, hz⟩, hi, kk⟩ | ⟨hn, kk⟩
            · exact absurd ⟨hc, h4⟩ hz
            · exact c_raise kk
          · exact c_next (fin ⟨⟨by omega, by omega⟩, h2, fun z => z.2 h4⟩)
        · exact if_f rfl (c_next (fin ⟨⟨by omega, by omega⟩, h2, fun z => h3 (by rw [hc] at z; exact Option.some.inj z.1)⟩))
  · have g0 : ¬ ((1 : Int) ≤ (r.length : Int)) := of_decide_eq_false g0
    rcases hh with ⟨n, ⟨hl, hs, hz⟩, hi, kk⟩ | ⟨hn, kk⟩
    · omega
    · exact ⟨false, rfl, if_t rfl (if_t rfl (c_raise kk))⟩
end Rf

set_option Elab.async false
set_option linter.all false
set_option maxRecDepth 100000
set_option maxHeartbeats 4000000
namespace Rf
open PySem PySem.Spec L2 Rm
local macro_rules | `(tactic| walk_at "ne") => `(tactic| first | assumption | (apply Ne.symm; assumption) | exact ne_new (by walk_at "hp") (by assumption) | exact ne_old (by walk_at "hp") (by assumption))
local macro_rules | `(tactic| walk_at "hp") => `(tactic| first | assumption | exact get_same (by assumption) (by walk_at "hp") | exact get_but (by assumption) (by walk_at "ne") (by walk_at "hp"))
local macro_rules | `(tactic| walk_at "sl") => `(tactic| first | assumption | exact sl_of (by assumption) | exact sl_same (by assumption) (by walk_at "sl") | exact sl_but (by assumption) (by walk_at "ne") (by walk_at "sl"))
local macro_rules | `(tactic| walk_at "st") => `(tactic| first | assumption | exact st_of (by assumption) | exact st_same (by assumption) (by walk_at "st") | exact st_but (by assumption) (by walk_at "ne") (by walk_at "st"))
local macro_rules | `(tactic| walk_at "sm") => `(tactic| first | assumption | exact Same.refl _ | exact same_tr (by assumption) (by walk_at "sm") | exact same_bt (by assumption) (by walk_at "fr") (by walk_at "sm"))
local macro_rules | `(tactic| walk_at "fr") => `(tactic| first | assumption | exact none_of_same (by assumption) (by walk_at "sm"))
local macro_rules | `(tactic| walk_at "dec") => `(tactic| first | rfl | assumption | omega | (simp only [decide_eq_true_eq, decide_eq_false_iff_not, Bool.not_eq_true', Bool.not_eq_false', Bool.not_true, Bool.not_false, Bool.and_eq_true, Bool.or_eq_true, Bool.and_eq_false_iff, Bool.or_eq_false_iff, Bool.not_eq_true, Bool.not_eq_false] <;> first | omega | assumption | rfl | (constructor <;> omega)))
local macro_rules | `(tactic| walk_at "len") => `(tactic| first | decide | omega | (simp only [List.length_append, List.length_cons, List.length_nil, List.length_map, List.length_range, List.length_reverse, List.length_set, List.length_take, List.length_drop] <;> omega) | (simp <;> omega))
local macro_rules | `(tactic| walk_at "s") => `(tactic| first
  | (with_reducible refine c_seq ?_)
  | (with_reducible refine c_asg ?_)
  | (with_reducible refine c_op ?_)
  | ((with_reducible refine' c_var ?hv ?_); (case hv => exact rfl))
  | (with_reducible refine c_c ?_)
  | (with_reducible refine c_cons ?_)
  | (with_reducible refine c_nil ?_)
  | (with_reducible refine c_and1 ?_)
  | (with_reducible refine c_shr1 ?_)
  | (with_reducible refine c_i0 ?_)
  | ((with_reducible refine' c_mul ?hv ?_); (case hv => omega))
  | ((with_reducible refine' c_div ?hv ?_); (case hv => omega))
  | ((with_reducible refine' c_mod ?hv ?_); (case hv => omega))
  | (with_reducible refine c_un ?_)
  | (with_reducible refine c_iU ?_)
  | (with_reducible refine c_call ?_)
  | (with_reducible refine c_tTest ?_)
  | (with_reducible refine c_tB ?_)
  | (with_reducible refine c_kB ?_)
  | (with_reducible refine c_ifS ?_)
  | (with_reducible refine c_gn0 ?_)
  | (with_reducible refine c_gn1 ?_)
  | (with_reducible refine c_gn2 ?_)
  | (with_reducible refine c_gn3 ?_)
  | (with_reducible refine c_gn4 ?_)
  | (with_reducible refine c_gn5 ?_)
  | (with_reducible refine c_gn6 ?_)
  | (with_reducible refine c_gn7 ?_)
  | (with_reducible refine c_gn8 ?_)
  | (with_reducible refine c_gnS ?_)
  | (with_reducible refine c_eqI ?_)
  | (with_reducible refine c_neI ?_)
  | (with_reducible refine c_eqS ?_)
  | (with_reducible refine c_neS ?_)
  | (with_reducible refine c_eqB ?_)
  | (with_reducible refine c_neB ?_)
  | (with_reducible refine c_and ?_)
  | (with_reducible refine c_or ?_)
  | (with_reducible refine c_not ?_)
  | (with_reducible refine c_andV ?_)
  | (with_reducible refine c_orV ?_)
  | (with_reducible refine c_notV ?_)
  | (with_reducible refine c_ifE ?_)
  | (with_reducible refine c_tYes ?_)
  | (with_reducible refine c_chain ?_)
  | ((with_reducible refine' c_chLe ?hv ?_ ?hm); (case hv => exact ⟨rfl, rfl⟩); (case hm => exact fun R R' hh q => hh _ _ q))
  | ((with_reducible refine' c_chLe ?hv ?_ ?hm); (case hv => exact ⟨_, rfl, rfl, rfl⟩); (case hm => exact fun R R' hh ⟨v, e, q⟩ => ⟨v, e, hh _ _ q⟩))
  | (with_reducible refine c_tup ?_)
  | (with_reducible refine c_lst ?_)
  | ((with_reducible refine' c_kTup ?hv ?_); (case hv => walk_at "len"); intro _ _ _ _ _)
  | ((with_reducible refine' c_kLst ?hv ?_); (case hv => walk_at "len"); intro _ _ _ _ _)
  | ((with_reducible refine' c_ixL ?hv ?ha ?_); (case hv => walk_at "sl"); (case ha => walk_at "at"))
  | ((with_reducible refine' c_ixT ?hv ?ha ?_); (case hv => walk_at "st"); (case ha => walk_at "at"))
  | ((with_reducible refine' c_cat ?hv ?ha ?hz ?_); (case hv => walk_at "hp"); (case ha => walk_at "hp"); (case hz => walk_at "len"); intro _ _ _ _ _)
  | ((with_reducible refine' c_addS ?hv ?_); (case hv => walk_at "len"))
  | (with_reducible refine c_sl ?_)
  | (with_reducible refine c_noP ?_)
  | (with_reducible refine c_part ?_)
  | (with_reducible refine c_kPart ?_)
  | ((with_reducible refine' c_slL ?hv ?_); (case hv => walk_at "sl"); intro _ _ _ _ _)
  | ((with_reducible refine' c_slX ?hv ?_); (case hv => walk_at "len"))
  | (with_reducible refine c_rev ?_)
  | ((with_reducible refine' c_kRev ?hv ?_); (case hv => walk_at "sl"); intro _ _ _ _ _)
  | (with_reducible refine c_CB ?_)
  | ((with_reducible refine' c_lenM ?hv ?_); (case hv => walk_at "sl"))
  | ((with_reducible refine' c_lenL ?hv ?_); (case hv => walk_at "sl"))
  | ((with_reducible refine' c_lenS ?hv ?_); (case hv => walk_at "len"))
  | ((with_reducible refine' c_listOf ?hv ?_); (case hv => walk_at "sl"); intro _ _ _ _ _)
  | (with_reducible refine c_min2 ?_)
  | (with_reducible refine c_listRg ?_)
  | (with_reducible refine c_rg1 ?_)
  | (with_reducible refine c_kRg1 ?_)
  | (with_reducible refine c_rg2 ?_)
  | (with_reducible refine c_kRg2 ?_)
  | ((with_reducible refine' c_kRgN ?hv ?_); (case hv => omega); intro _ _ _ _ _)
  | ((with_reducible refine' c_kRgN2 ?hv ?ha ?_); (case hv => omega); (case ha => omega); intro _ _ _ _ _)
  | ((with_reducible refine' c_kRg ?hv ?ha ?_); (case hv => omega); (case ha => omega); intro _ _ _ _ _)
  | (with_reducible refine c_lenSet ?_)
  | (with_reducible refine c_meth ?_)
  | (with_reducible refine c_methA ?_)
  | (with_reducible refine c_make ?_)
  | ((with_reducible refine c_makeO ?_); intro _ _ _ _ _ _)
  | (with_reducible refine c_fld ?_)
  | (with_reducible refine c_bm ?_)
  | (with_reducible refine c_bm0 ?_)
  | ((with_reducible refine' c_kBMl ?hv ?_); (case hv => walk_at "sl"))
  | ((with_reducible refine' c_kBM0l ?hv ?_); (case hv => walk_at "sl"))
  | (with_reducible refine c_kBMs ?_)
  | (with_reducible refine c_kBM0s ?_)
  | ((with_reducible refine' c_append ?hv ?hz ?_); (case hv => walk_at "hp"); (case hz => walk_at "len"); intro _ _ _)
  | ((with_reducible refine' c_extend ?hv ?ha ?hz ?_); (case hv => walk_at "hp"); (case ha => walk_at "hp"); (case hz => walk_at "len"); intro _ _ _)
  | ((with_reducible refine' c_reverse ?hv ?_); (case hv => walk_at "hp"); intro _ _ _)
  | ((with_reducible refine' c_clear ?hv ?_); (case hv => walk_at "hp"); intro _ _ _)
  | ((with_reducible refine' c_gtup ?hv ?ha ?_); (case hv => walk_at "st"); (case ha => exact rfl))
  | (with_reducible refine c_gnil ?_)
  | (with_reducible refine c_gcons ?_)
  | (with_reducible refine c_gsub ?_)
  | (with_reducible refine c_next ?_)
  | (with_reducible refine c_par ?_)
  | (with_reducible refine c_kPar ?_)
  | ((with_reducible refine' c_aug ?hv ?_); (case hv => exact rfl))
  | (with_reducible refine c_ipI ?_)
  | (with_reducible refine c_drop ?_)
  | (with_reducible refine c_ret ?_)
  | (with_reducible refine c_retN ?_)
  | (with_reducible refine c_sfld ?_)
  | (with_reducible refine c_forL ?_)
  | (with_reducible refine c_for1 ?_)
  | (with_reducible refine c_for2 ?_)
  | (with_reducible refine c_forS ?_)
  | (with_reducible refine c_forRev ?_)
  | (with_reducible refine c_lcL ?_)
  | (with_reducible refine c_lc1 ?_)
  | (refine if_f (by walk_at "dec") ?_)
  | (refine if_t (by walk_at "dec") ?_)
  | walk_at "own")
local macro_rules | `(tactic| walk_at "go") => `(tactic| repeat walk_at "s")

local macro_rules | `(tactic| walk_at "kit") => `(tactic| first | exact kit_int_int | exact kit_int_bool | exact kit_int_str | exact kit_int_list | exact kit_list_list | exact kit_list_int | exact kit_list_bool | exact kit_str_str | exact kit_str_int | exact kit_str_list | exact kit_bool_bool | exact kit_bool_int | exact kit_bool_list)
local macro_rules | `(tactic| walk_at "own") => `(tactic| first
  | ((with_reducible refine' c_isiI ?h3 ?_); (case h3 => walk_at "kit"))
  | ((with_reducible refine' c_isiL ?h1 ?h3 ?_); (case h1 => walk_at "sl"); (case h3 => walk_at "kit"))
  | ((with_reducible refine' c_isiS ?h3 ?_); (case h3 => walk_at "kit"))
  | ((with_reducible refine' c_isiB ?h3 ?_); (case h3 => walk_at "kit"))
  | (with_reducible refine c_within ?_))
local macro_rules | `(tactic| walk_at "tn") => `(tactic| first | exact tn_nat _ | exact tn_add _ _ | exact tn_sub1 _ (by omega) | exact tn_sub _ _ (by omega) | exact rfl)
local macro_rules | `(tactic| walk_at "at") => `(tactic| first | exact at_DN (by walk_at "tn") (by omega) (by omega) | exact at_DI (by walk_at "tn") (by omega) (by omega) | rfl | assumption | exact at_map (by assumption) (by first | rfl | omega))


local macro_rules | `(tactic| walk_at "own") => `(tactic| first
  | ((with_reducible refine' c_cell_at ?h1 ?h2 ?_); (case h1 => walk_at "sl"); (case h2 => omega))
  | ((with_reducible refine' c_draw ?h1 ?h2 ?_); (case h1 => omega); (case h2 => omega); intro _ _)
  | ((with_reducible refine' c_inN ?h1 ?_); (case h1 => walk_at "sl"))
  | ((with_reducible refine' c_ninN ?h1 ?_); (case h1 => walk_at "sl"))
  | ((with_reducible refine' c_eqLst leaf_nat ?h1 ?h2 ?_); (case h1 => walk_at "sl"); (case h2 => walk_at "sl"))
  | ((with_reducible refine' c_neLst leaf_nat ?h1 ?h2 ?_); (case h1 => walk_at "sl"); (case h2 => walk_at "sl")))

local macro_rules | `(tactic| walk_at "own") => `(tactic| first
  | ((with_reducible refine' c_drawB ?h1 ?h2 ?_); (case h1 => omega); (case h2 => omega); intro _ _ _ _)
  | (with_reducible refine c_dnew ?_; intro _ _ _ _ _)
  | (with_reducible refine c_dget ?_)
  | (with_reducible refine c_dput ?_)
  | (with_reducible refine c_eqSg ?_)
  | (with_reducible refine c_countW ?_)
  | ((with_reducible refine' c_stripW ?h1 ?_); (case h1 => omega))
  | ((with_reducible refine' c_setLN ?h1 ?h2 ?_); (case h1 => walk_at "hp"); (case h2 => walk_at "len"); intro _ _ _))
local macro_rules | `(tactic| walk_at "s") => `(tactic| first
  | ((with_reducible refine' c_slTk ?h1 ?h2 ?_); (case h1 => walk_at "sl"); (case h2 => walk_at "len"); intro _ _ _ _ _)
  | ((with_reducible refine' c_slD1 ?h1 ?h2 ?_); (case h1 => walk_at "sl"); (case h2 => walk_at "len"); intro _ _ _ _ _)
  | ((with_reducible refine' c_slDr ?h1 ?h2 ?_); (case h1 => walk_at "sl"); (case h2 => walk_at "len"); intro _ _ _ _ _))
local macro_rules | `(tactic| walk_at "at") => `(tactic| exact at_D0 (by omega))

local macro_rules | `(tactic| walk_at "own") => `(tactic| first
  | ((with_reducible refine' c_many ?h1 ?_); (case h1 => omega); intro _ _ _ _ _)
  | ((with_reducible refine' c_order ?h1 ?_); (case h1 => omega); intro _ _ _ _ _ _ _)
  | ((with_reducible refine' c_word ?h1 ?_); (case h1 => omega); intro _ _ _ _))

variable {K : PySem.W.Frag} {C : Cl} {vs : List V} {H : Hp} {Q : VK} {E : XK}
local macro_rules | `(tactic| walk_at "dec") => `(tactic| decide +kernel)
theorem first_ne {m m' : Mv} (h : (tri m).1 ≠ (tri m').1) : mvText m ≠ mvText m' := fun e => by
  have h1 := part_text m
  rw [e, part_text m'] at h1
  exact h (congrArg Prod.fst h1.symm)
theorem c_mkX {cls : Addr} {sp : Sp} {f : Str} {v : V} {A : VK} (hs : ∀ x dx H1, H1 x = some (.ins cls dx []) → (∀ H2, But x H1 H2 → H2 x = some (.ins cls dx [(f, v)]) → A .non H2) → sp [.ref x, v] H1 A E) : True := trivial
theorem c_makeGood {cls : Addr} {sp : Sp} {f : Str} {v : V} (hs : ∀ x dx H1 (A : VK), H1 x = some (.ins cls dx []) → (∀ H2, But x H1 H2 → H2 x = some (.ins cls dx [(f, v)]) → A .non H2) → sp [.ref x, v] H1 A E)
    (k : ∀ x dx H', H x = none → Same H H' → H' x = some (.ins cls dx [(f, v)]) → Q (.ref x) H') : kMake cls sp E Q [v] H := fun x dx hx hd hne =>
  hs x dx _ _ upd_same fun H' e1 e2 => ⟨rfl, k x dx H' hx (fun b o hb => e1 b o (ne_of_none hb hx) (by rw [upd_ne (ne_of_none hb hx), upd_ne (ne_of_none hb hd)]; exact hb)) e2⟩
theorem c_makeBad {cls : Addr} {sp : Sp} {v : V} (hs : ∀ x dx H1 (A : VK), H1 x = some (.ins cls dx []) → Same H H1 → sp [.ref x, v] H1 A E) : kMake cls sp E Q [v] H := fun x dx hx hd hne =>
  hs x dx _ _ upd_same fun b o hb => by rw [upd_ne (ne_of_none hb hx), upd_ne (ne_of_none hb hd)]; exact hb
theorem num_in {r : Str} {n : Nat} (hr : r.length ≤ 100000) (hd : DigOk r) (hi : PySem.intText? r = some (n : Int)) (k : Q (vN n) H) : sp_p_number_in K C [.str r] H Q E := ⟨r, rfl, hr, .inl ⟨n, hd, hi, k⟩⟩
theorem num_out {r : Str} (hr : r.length ≤ 100000) (hd : ¬ DigOk r) (k : E (.ref C.cBadText) none H) : sp_p_number_in K C [.str r] H Q E := ⟨r, rfl, hr, .inr ⟨hd, k⟩⟩
theorem part_len {u a b : Str} (h : u = a ++ blnk ++ b) (hu : u.length ≤ 100000) : b.length ≤ 100000 := by
  rw [h, str_len_app, str_len_app] at hu
  omega
theorem good_turn : Good "turn" := ⟨.turn, trivial, rfl⟩
theorem good_under : Good "under" := ⟨.under, trivial, rfl⟩
theorem rd_x_p_move_in (F : CF K C) (hav : ∀ κ, C.av κ) (h : sp_p_move_in K C vs H Q E) : t_x_p_move_in K C E { nx := fun _ H' => Q .non H', rt := Q } (start n_p_move_in vs) H := by
  obtain ⟨u, rfl, hu, hh⟩ := h
  show t_x_p_move_in K C E _ [some (.str u), none, none, none] H
  unfold t_x_p_move_in
  have hu2 : u.length ≤ 1000000 := by omega
  rcases hh with ⟨m, hok, rfl, kk⟩ | ⟨hb, kk⟩
  · have hne1 : ∀ m', (tri m).1 ≠ (tri m').1 → decide (mvText m = mvText m') = false := fun m' h => decide_eq_false (first_ne h)
    cases m with
    | turn =>
      refine c_seq (c_ifS (c_tTest (c_op (c_var rfl (c_c (c_eqS (c_kB ?_)))))))
      refine if_t (decide_eq_true rfl) (c_ret (c_makeO fun x dx H1 hx s1 hx1 => kk x H1 hx s1 ⟨hav _, trivial, dx, hx1⟩))
    | under =>
      refine c_seq (c_ifS (c_tTest (c_op (c_var rfl (c_c (c_eqS (c_kB ?_)))))))
      refine if_f (by decide +kernel) (c_next ?_)
      refine c_seq (c_ifS (c_tTest (c_op (c_var rfl (c_c (c_eqS (c_kB ?_)))))))
      refine if_t (decide_eq_true rfl) (c_ret (c_makeO fun x dx H1 hx s1 hx1 => kk x H1 hx s1 ⟨hav _, trivial, dx, hx1⟩))
    | cut n =>
      have hok : n ≤ 60 := hok
      refine c_seq (c_ifS (c_tTest (c_op (c_var rfl (c_c (c_eqS (c_kB (if_f (hne1 .turn (show Str.ofString "cut" ≠ Str.ofString "turn" by decide +kernel)) (c_next ?_)))))))))
      refine c_seq (c_ifS (c_tTest (c_op (c_var rfl (c_c (c_eqS (c_kB (if_f (hne1 .under (show Str.ofString "cut" ≠ Str.ofString "under" by decide +kernel)) (c_next ?_)))))))))
      refine c_seq (c_asg (c_bm (c_var rfl (c_kBMs (c_cons (c_c (c_nil (c_partS hu2 fun t H1 ht s1 ht1 => ?_))))))))
      rw [part_text] at ht1
      have ht1 : H1 t = some (.tup [.str "cut", .str blnk, .str (numS n)]) := ht1
      walk_at "go"
      have hd := num_dig hok
      refine num_in (by rw [num_len hok]; exact Nat.le_trans (one_or_two _) (by decide)) hd.1 hd.2 ?_
      refine c_nil (c_makeGood (f := "many") (fun x dx H2 A h1 h2 => ⟨x, dx, n, rfl, h1, .inl ⟨hok, h2⟩⟩) fun x dx H2 hx s2 hx2 => ?_)
      exact kk x H2 (none_of_same hx s1) (s1.trans s2) ⟨hav _, hok, dx, hx2⟩
    | deal n =>
      have hok2 : n ≤ 60 := hok.2
      refine c_seq (c_ifS (c_tTest (c_op (c_var rfl (c_c (c_eqS (c_kB (if_f (hne1 .turn (show Str.ofString "deal" ≠ Str.ofString "turn" by decide +kernel)) (c_next ?_)))))))))
      refine c_seq (c_ifS (c_tTest (c_op (c_var rfl (c_c (c_eqS (c_kB (if_f (hne1 .under (show Str.ofString "deal" ≠ Str.ofString "under" by decide +kernel)) (c_next ?_)))))))))
      refine c_seq (c_asg (c_bm (c_var rfl (c_kBMs (c_cons (c_c (c_nil (c_partS hu2 fun t H1 ht s1 ht1 => ?_))))))))
      rw [part_text] at ht1
      have ht1 : H1 t = some (.tup [.str "deal", .str blnk, .str (numS n)]) := ht1
      walk_at "go"
      have hd := num_dig hok2
      refine num_in (by rw [num_len hok2]; exact Nat.le_trans (one_or_two _) (by decide)) hd.1 hd.2 ?_
      refine c_nil (c_makeGood (f := "piles") (fun x dx H2 A h1 h2 => ⟨x, dx, n, rfl, h1, .inl ⟨hok.1, hok.2, h2⟩⟩) fun x dx H2 hx s2 hx2 => ?_)
      exact kk x H2 (none_of_same hx s1) (s1.trans s2) ⟨hav _, hok, dx, hx2⟩
    | weave n =>
      have hok2 : n ≤ 1 := hok
      have hok3 : n ≤ 60 := by omega
      refine c_seq (c_ifS (c_tTest (c_op (c_var rfl (c_c (c_eqS (c_kB (if_f (hne1 .turn (show Str.ofString "weave" ≠ Str.ofString "turn" by decide +kernel)) (c_next ?_)))))))))
      refine c_seq (c_ifS (c_tTest (c_op (c_var rfl (c_c (c_eqS (c_kB (if_f (hne1 .under (show Str.ofString "weave" ≠ Str.ofString "under" by decide +kernel)) (c_next ?_)))))))))
      refine c_seq (c_asg (c_bm (c_var rfl (c_kBMs (c_cons (c_c (c_nil (c_partS hu2 fun t H1 ht s1 ht1 => ?_))))))))
      rw [part_text] at ht1
      have ht1 : H1 t = some (.tup [.str "weave", .str blnk, .str (numS n)]) := ht1
      walk_at "go"
      have hd := num_dig hok3
      refine num_in (by rw [num_len hok3]; exact Nat.le_trans (one_or_two _) (by decide)) hd.1 hd.2 ?_
      refine c_nil (c_makeGood (f := "first") (fun x dx H2 A h1 h2 => ⟨x, dx, n, rfl, h1, .inl ⟨hok2, h2⟩⟩) fun x dx H2 hx s2 hx2 => ?_)
      exact kk x H2 (none_of_same hx s1) (s1.trans s2) ⟨hav _, hok, dx, hx2⟩
    | riffle w =>
      refine c_seq (c_ifS (c_tTest (c_op (c_var rfl (c_c (c_eqS (c_kB (if_f (hne1 .turn (show Str.ofString "riffle" ≠ Str.ofString "turn" by decide +kernel)) (c_next ?_)))))))))
      refine c_seq (c_ifS (c_tTest (c_op (c_var rfl (c_c (c_eqS (c_kB (if_f (hne1 .under (show Str.ofString "riffle" ≠ Str.ofString "under" by decide +kernel)) (c_next ?_)))))))))
      refine c_seq (c_asg (c_bm (c_var rfl (c_kBMs (c_cons (c_c (c_nil (c_partS hu2 fun t H1 ht s1 ht1 => ?_))))))))
      rw [part_text] at ht1
      have ht1 : H1 t = some (.tup [.str "riffle", .str blnk, .str (wS w)]) := ht1
      walk_at "go"
      have hwl := wS_len w
      have hw1 := hok.1
      have hw2 := hok.2
      refine c_makeGood (f := "word") (fun x dx H2 A h1 h2 => ⟨x, dx, wS w, rfl, by omega, h1, .inl ⟨word_ok hw1 hw2, h2⟩⟩) fun x dx H2 hx s2 hx2 => ?_
      exact kk x H2 (none_of_same hx s1) (s1.trans s2) ⟨hav _, hok, dx, hx2⟩
  · refine c_seq (c_ifS (c_tTest (c_op (c_var rfl (c_c (c_eqS (c_kB (if_f (decide_eq_false fun e => hb (e ▸ good_turn)) (c_next ?_)))))))))
    refine c_seq (c_ifS (c_tTest (c_op (c_var rfl (c_c (c_eqS (c_kB (if_f (decide_eq_false fun e => hb (e ▸ good_under)) (c_next ?_)))))))))
    refine c_seq (c_asg (c_bm (c_var rfl (c_kBMs (c_cons (c_c (c_nil (c_partS hu2 fun t H1 ht s1 ht1 => ?_))))))))
    rcases part_cases u with ⟨a, b, e, hp⟩ | hp
    · rw [hp] at ht1
      have ht1 : H1 t = some (.tup [.str a, .str blnk, .str b]) := ht1
      have hbl := part_len e hu
      have hbk : (!decide (blnk = "")) = true := by decide +kernel
      refine c_gtup (st_of ht1) rfl (c_gcons (c_gn1 (c_gcons (c_gn2 (c_gcons (c_gn3 (c_gnil ?_)))))))
      refine c_seq (c_ifS (c_and (c_tTest (c_op (c_var rfl (c_c (c_eqS (c_kB ?_))))))))
      refine if_d (fun h1 => ?_) (fun h1 => ?_)
      · refine c_tTest (c_op (c_var rfl (c_c (c_neS (c_kB (if_t hbk (c_ret (c_make (c_cons (c_call (c_cons (c_var rfl (c_nil ?_)))))))))))))
        by_cases hd : DigOk b
        · obtain ⟨n, hn, hi, hs⟩ := dig_num hd
          refine num_in hbl hd hi (c_nil (c_makeBad fun x dx H2 A hx s2 => ⟨x, dx, n, rfl, hx, .inr ⟨?_, (kk _ (s1.trans s2)).2⟩⟩))
          have : ¬ n ≤ 60 := fun hn2 => hb (by rw [e, h1]; exact good_cut hs hn2)
          omega
        · exact num_out hbl hd (kk _ s1).1
      · refine if_f rfl (c_next ?_)
        refine c_seq (c_ifS (c_and (c_tTest (c_op (c_var rfl (c_c (c_eqS (c_kB ?_))))))))
        refine if_d (fun h2 => ?_) (fun h2 => ?_)
        · refine c_tTest (c_op (c_var rfl (c_c (c_neS (c_kB (if_t hbk (c_ret (c_make (c_cons (c_call (c_cons (c_var rfl (c_nil ?_)))))))))))))
          by_cases hd : DigOk b
          · obtain ⟨n, hn, hi, hs⟩ := dig_num hd
            refine num_in hbl hd hi (c_nil (c_makeBad fun x dx H2 A hx s2 => ⟨x, dx, n, rfl, hx, .inr ⟨fun hn2 => hb (by rw [e, h2]; exact good_deal hs hn2.1 hn2.2), (kk _ (s1.trans s2)).2⟩⟩))
          · exact num_out hbl hd (kk _ s1).1
        · refine if_f rfl (c_next ?_)
          refine c_seq (c_ifS (c_and (c_tTest (c_op (c_var rfl (c_c (c_eqS (c_kB ?_))))))))
          refine if_d (fun h3 => ?_) (fun h3 => ?_)
          · refine c_tTest (c_op (c_var rfl (c_c (c_neS (c_kB (if_t hbk (c_ret (c_make (c_cons (c_call (c_cons (c_var rfl (c_nil ?_)))))))))))))
            by_cases hd : DigOk b
            · obtain ⟨n, hn, hi, hs⟩ := dig_num hd
              refine num_in hbl hd hi (c_nil (c_makeBad fun x dx H2 A hx s2 => ⟨x, dx, n, rfl, hx, .inr ⟨?_, (kk _ (s1.trans s2)).2⟩⟩))
              have : ¬ n ≤ 1 := fun hn2 => hb (by rw [e, h3]; exact good_weave hs hn2)
              omega
            · exact num_out hbl hd (kk _ s1).1
          · refine if_f rfl (c_next ?_)
            refine c_seq (c_ifS (c_and (c_tTest (c_op (c_var rfl (c_c (c_eqS (c_kB ?_))))))))
            refine if_d (fun h4 => ?_) (fun h4 => ?_)
            · refine c_tTest (c_op (c_var rfl (c_c (c_neS (c_kB (if_t hbk (c_ret (c_make (c_cons (c_var rfl (c_nil ?_)))))))))))
              refine c_makeBad fun x dx H2 A hx s2 => ⟨x, dx, b, rfl, hbl, hx, .inr ⟨fun hw => hb (by rw [e, h4]; exact good_riffle hw), (kk _ (s1.trans s2)).2⟩⟩
            · exact if_f rfl (c_next (c_raise (kk _ s1).1))
    · rw [hp] at ht1
      have ht1 : H1 t = some (.tup [.str u, .str Str.empty, .str Str.empty]) := ht1
      have hbk : (!decide (Str.empty = "")) = false := by decide +kernel
      refine c_gtup (st_of ht1) rfl (c_gcons (c_gn1 (c_gcons (c_gn2 (c_gcons (c_gn3 (c_gnil ?_)))))))
      refine c_seq (c_ifS (c_and (c_tTest (c_op (c_var rfl (c_c (c_eqS (c_kB (and_skip ?_ fun k => c_tTest (c_op (c_var rfl (c_c (c_neS (c_kB (if_f hbk (k))))))))))))))))
      refine if_f rfl (c_next ?_)
      refine c_seq (c_ifS (c_and (c_tTest (c_op (c_var rfl (c_c (c_eqS (c_kB (and_skip ?_ fun k => c_tTest (c_op (c_var rfl (c_c (c_neS (c_kB (if_f hbk (k))))))))))))))))
      refine if_f rfl (c_next ?_)
      refine c_seq (c_ifS (c_and (c_tTest (c_op (c_var rfl (c_c (c_eqS (c_kB (and_skip ?_ fun k => c_tTest (c_op (c_var rfl (c_c (c_neS (c_kB (if_f hbk (k))))))))))))))))
      refine if_f rfl (c_next ?_)
      refine c_seq (c_ifS (c_and (c_tTest (c_op (c_var rfl (c_c (c_eqS (c_kB (and_skip ?_ fun k => c_tTest (c_op (c_var rfl (c_c (c_neS (c_kB (if_f hbk (k))))))))))))))))
      exact if_f rfl (c_next (c_raise (kk _ s1).1))
end Rf

set_option Elab.async false
set_option linter.all false
set_option maxRecDepth 100000
set_option maxHeartbeats 4000000
namespace Rf
open PySem PySem.Spec L2 Rm
local macro_rules | `(tactic| walk_at "ne") => `(tactic| first | assumption | (apply Ne.symm; assumption) | exact ne_new (by walk_at "hp") (by assumption) | exact ne_old (by walk_at "hp") (by assumption))
local macro_rules | `(tactic| walk_at "hp") => `(tactic| first | assumption | exact get_same (by assumption) (by walk_at "hp") | exact get_but (by assumption) (by walk_at "ne") (by walk_at "hp"))
local macro_rules | `(tactic| walk_at "sl") => `(tactic| first | assumption | exact sl_of (by assumption) | exact sl_same (by assumption) (by walk_at "sl") | exact sl_but (by assumption) (by walk_at "ne") (by walk_at "sl"))
local macro_rules | `(tactic| walk_at "st") => `(tactic| first | assumption | exact st_of (by assumption) | exact st_same (by assumption) (by walk_at "st") | exact st_but (by assumption) (by walk_at "ne") (by walk_at "st"))
local macro_rules | `(tactic| walk_at "sm") => `(tactic| first | assumption | exact Same.refl _ | exact same_tr (by assumption) (by walk_at "sm") | exact same_bt (by assumption) (by walk_at "fr") (by walk_at "sm"))
local macro_rules | `(tactic| walk_at "fr") => `(tactic| first | assumption | exact none_of_same (by assumption) (by walk_at "sm"))
local macro_rules | `(tactic| walk_at "dec") => `(tactic| first | rfl | assumption | omega | (simp only [decide_eq_true_eq, decide_eq_false_iff_not, Bool.not_eq_true', Bool.not_eq_false', Bool.not_true, Bool.not_false, Bool.and_eq_true, Bool.or_eq_true, Bool.and_eq_false_iff, Bool.or_eq_false_iff, Bool.not_eq_true, Bool.not_eq_false] <;> first | omega | assumption | rfl | (constructor <;> omega)))
local macro_rules | `(tactic| walk_at "len") => `(tactic| first | decide | omega | (simp only [List.length_append, List.length_cons, List.length_nil, List.length_map, List.length_range, List.length_reverse, List.length_set, List.length_take, List.length_drop] <;> omega) | (simp <;> omega))
local macro_rules | `(tactic| walk_at "s") => `(tactic| first
  | (with_reducible refine c_seq ?_)
  | (with_reducible refine c_asg ?_)
  | (with_reducible refine c_op ?_)
  | ((with_reducible refine' c_var ?hv ?_); (case hv => exact rfl))
  | (with_reducible refine c_c ?_)
  | (with_reducible refine c_cons ?_)
  | (with_reducible refine c_nil ?_)
  | (with_reducible refine c_and1 ?_)
  | (with_reducible refine c_shr1 ?_)
  | (with_reducible refine c_i0 ?_)
  | ((with_reducible refine' c_mul ?hv ?_); (case hv => omega))
  | ((with_reducible refine' c_div ?hv ?_); (case hv => omega))
  | ((with_reducible refine' c_mod ?hv ?_); (case hv => omega))
  | (with_reducible refine c_un ?_)
  | (with_reducible refine c_iU ?_)
  | (with_reducible refine c_call ?_)
  | (with_reducible refine c_tTest ?_)
  | (with_reducible refine c_tB ?_)
  | (with_reducible refine c_kB ?_)
  | (with_reducible refine c_ifS ?_)
  | (with_reducible refine c_gn0 ?_)
  | (with_reducible refine c_gn1 ?_)
  | (with_reducible refine c_gn2 ?_)
  | (with_reducible refine c_gn3 ?_)
  | (with_reducible refine c_gn4 ?_)
  | (with_reducible refine c_gn5 ?_)
  | (with_reducible refine c_gn6 ?_)
  | (with_reducible refine c_gn7 ?_)
  | (with_reducible refine c_gn8 ?_)
  | (with_reducible refine c_gnS ?_)
  | (with_reducible refine c_eqI ?_)
  | (with_reducible refine c_neI ?_)
  | (with_reducible refine c_eqS ?_)
  | (with_reducible refine c_neS ?_)
  | (with_reducible refine c_eqB ?_)
  | (with_reducible refine c_neB ?_)
  | (with_reducible refine c_and ?_)
  | (with_reducible refine c_or ?_)
  | (with_reducible refine c_not ?_)
  | (with_reducible refine c_andV ?_)
  | (with_reducible refine c_orV ?_)
  | (with_reducible refine c_notV ?_)
  | (with_reducible refine c_ifE ?_)
  | (with_reducible refine c_tYes ?_)
  | (with_reducible refine c_chain ?_)
  | ((with_reducible refine' c_chLe ?hv ?_ ?hm); (case hv => exact ⟨rfl, rfl⟩); (case hm => exact fun R R' hh q => hh _ _ q))
  | ((with_reducible refine' c_chLe ?hv ?_ ?hm); (case hv => exact ⟨_, rfl, rfl, rfl⟩); (case hm => exact fun R R' hh ⟨v, e, q⟩ => ⟨v, e, hh _ _ q⟩))
  | (with_reducible refine c_tup ?_)
  | (with_reducible refine c_lst ?_)
  | ((with_reducible refine' c_kTup ?hv ?_); (case hv => walk_at "len"); intro _ _ _ _ _)
  | ((with_reducible refine' c_kLst ?hv ?_); (case hv => walk_at "len"); intro _ _ _ _ _)
  | ((with_reducible refine' c_ixL ?hv ?ha ?_); (case hv => walk_at "sl"); (case ha => walk_at "at"))
  | ((with_reducible refine' c_ixT ?hv ?ha ?_); (case hv => walk_at "st"); (case ha => walk_at "at"))
  | ((with_reducible refine' c_cat ?hv ?ha ?hz ?_); (case hv => walk_at "hp"); (case ha => walk_at "hp"); (case hz => walk_at "len"); intro _ _ _ _ _)
  | ((with_reducible refine' c_addS ?hv ?_); (case hv => walk_at "len"))
  | (with_reducible refine c_sl ?_)
  | (with_reducible refine c_noP ?_)
  | (with_reducible refine c_part ?_)
  | (with_reducible refine c_kPart ?_)
  | ((with_reducible refine' c_slL ?hv ?_); (case hv => walk_at "sl"); intro _ _ _ _ _)
  | ((with_reducible refine' c_slX ?hv ?_); (case hv => walk_at "len"))
  | (with_reducible refine c_rev ?_)
  | ((with_reducible refine' c_kRev ?hv ?_); (case hv => walk_at "sl"); intro _ _ _ _ _)
  | (with_reducible refine c_CB ?_)
  | ((with_reducible refine' c_lenM ?hv ?_); (case hv => walk_at "sl"))
  | ((with_reducible refine' c_lenL ?hv ?_); (case hv => walk_at "sl"))
  | ((with_reducible refine' c_lenS ?hv ?_); (case hv => walk_at "len"))
  | ((with_reducible refine' c_listOf ?hv ?_); (case hv => walk_at "sl"); intro _ _ _ _ _)
  | (with_reducible refine c_min2 ?_)
  | (with_reducible refine c_listRg ?_)
  | (with_reducible refine c_rg1 ?_)
  | (with_reducible refine c_kRg1 ?_)
  | (with_reducible refine c_rg2 ?_)
  | (with_reducible refine c_kRg2 ?_)
  | ((with_reducible refine' c_kRgN ?hv ?_); (case hv => omega); intro _ _ _ _ _)
  | ((with_reducible refine' c_kRgN2 ?hv ?ha ?_); (case hv => omega); (case ha => omega); intro _ _ _ _ _)
  | ((with_reducible refine' c_kRg ?hv ?ha ?_); (case hv => omega); (case ha => omega); intro _ _ _ _ _)
  | (with_reducible refine c_lenSet ?_)
  | (with_reducible refine c_meth ?_)
  | (with_reducible refine c_methA ?_)
  | (with_reducible refine c_make ?_)
  | ((with_reducible refine c_makeO ?_); intro _ _ _ _ _ _)
  | (with_reducible refine c_fld ?_)
  | (with_reducible refine c_bm ?_)
  | (with_reducible refine c_bm0 ?_)
  | ((with_reducible refine' c_kBMl ?hv ?_); (case hv => walk_at "sl"))
  | ((with_reducible refine' c_kBM0l ?hv ?_); (case hv => walk_at "sl"))
  | (with_reducible refine c_kBMs ?_)
  | (with_reducible refine c_kBM0s ?_)
  | ((with_reducible refine' c_append ?hv ?hz ?_); (case hv => walk_at "hp"); (case hz => walk_at "len"); intro _ _ _)
  | ((with_reducible refine' c_extend ?hv ?ha ?hz ?_); (case hv => walk_at "hp"); (case ha => walk_at "hp"); (case hz => walk_at "len"); intro _ _ _)
  | ((with_reducible refine' c_reverse ?hv ?_); (case hv => walk_at "hp"); intro _ _ _)
  | ((with_reducible refine' c_clear ?hv ?_); (case hv => walk_at "hp"); intro _ _ _)
  | ((with_reducible refine' c_gtup ?hv ?ha ?_); (case hv => walk_at "st"); (case ha => exact rfl))
  | (with_reducible refine c_gnil ?_)
  | (with_reducible refine c_gcons ?_)
  | (with_reducible refine c_gsub ?_)
  | (with_reducible refine c_next ?_)
  | (with_reducible refine c_par ?_)
  | (with_reducible refine c_kPar ?_)
  | ((with_reducible refine' c_aug ?hv ?_); (case hv => exact rfl))
  | (with_reducible refine c_ipI ?_)
  | (with_reducible refine c_drop ?_)
  | (with_reducible refine c_ret ?_)
  | (with_reducible refine c_retN ?_)
  | (with_reducible refine c_sfld ?_)
  | (with_reducible refine c_forL ?_)
  | (with_reducible refine c_for1 ?_)
  | (with_reducible refine c_for2 ?_)
  | (with_reducible refine c_forS ?_)
  | (with_reducible refine c_forRev ?_)
  | (with_reducible refine c_lcL ?_)
  | (with_reducible refine c_lc1 ?_)
  | (refine if_f (by walk_at "dec") ?_)
  | (refine if_t (by walk_at "dec") ?_)
  | walk_at "own")
local macro_rules | `(tactic| walk_at "go") => `(tactic| repeat walk_at "s")

local macro_rules | `(tactic| walk_at "kit") => `(tactic| first | exact kit_int_int | exact kit_int_bool | exact kit_int_str | exact kit_int_list | exact kit_list_list | exact kit_list_int | exact kit_list_bool | exact kit_str_str | exact kit_str_int | exact kit_str_list | exact kit_bool_bool | exact kit_bool_int | exact kit_bool_list)
local macro_rules | `(tactic| walk_at "own") => `(tactic| first
  | ((with_reducible refine' c_isiI ?h3 ?_); (case h3 => walk_at "kit"))
  | ((with_reducible refine' c_isiL ?h1 ?h3 ?_); (case h1 => walk_at "sl"); (case h3 => walk_at "kit"))
  | ((with_reducible refine' c_isiS ?h3 ?_); (case h3 => walk_at "kit"))
  | ((with_reducible refine' c_isiB ?h3 ?_); (case h3 => walk_at "kit"))
  | (with_reducible refine c_within ?_))
local macro_rules | `(tactic| walk_at "tn") => `(tactic| first | exact tn_nat _ | exact tn_add _ _ | exact tn_sub1 _ (by omega) | exact tn_sub _ _ (by omega) | exact rfl)
local macro_rules | `(tactic| walk_at "at") => `(tactic| first | exact at_DN (by walk_at "tn") (by omega) (by omega) | exact at_DI (by walk_at "tn") (by omega) (by omega) | rfl | assumption | exact at_map (by assumption) (by first | rfl | omega))


local macro_rules | `(tactic| walk_at "own") => `(tactic| first
  | ((with_reducible refine' c_cell_at ?h1 ?h2 ?_); (case h1 => walk_at "sl"); (case h2 => omega))
  | ((with_reducible refine' c_draw ?h1 ?h2 ?_); (case h1 => omega); (case h2 => omega); intro _ _)
  | ((with_reducible refine' c_inN ?h1 ?_); (case h1 => walk_at "sl"))
  | ((with_reducible refine' c_ninN ?h1 ?_); (case h1 => walk_at "sl"))
  | ((with_reducible refine' c_eqLst leaf_nat ?h1 ?h2 ?_); (case h1 => walk_at "sl"); (case h2 => walk_at "sl"))
  | ((with_reducible refine' c_neLst leaf_nat ?h1 ?h2 ?_); (case h1 => walk_at "sl"); (case h2 => walk_at "sl")))

local macro_rules | `(tactic| walk_at "own") => `(tactic| first
  | ((with_reducible refine' c_drawB ?h1 ?h2 ?_); (case h1 => omega); (case h2 => omega); intro _ _ _ _)
  | (with_reducible refine c_dnew ?_; intro _ _ _ _ _)
  | (with_reducible refine c_dget ?_)
  | (with_reducible refine c_dput ?_)
  | (with_reducible refine c_eqSg ?_)
  | (with_reducible refine c_countW ?_)
  | ((with_reducible refine' c_stripW ?h1 ?_); (case h1 => omega))
  | ((with_reducible refine' c_setLN ?h1 ?h2 ?_); (case h1 => walk_at "hp"); (case h2 => walk_at "len"); intro _ _ _))
local macro_rules | `(tactic| walk_at "s") => `(tactic| first
  | ((with_reducible refine' c_slTk ?h1 ?h2 ?_); (case h1 => walk_at "sl"); (case h2 => walk_at "len"); intro _ _ _ _ _)
  | ((with_reducible refine' c_slD1 ?h1 ?h2 ?_); (case h1 => walk_at "sl"); (case h2 => walk_at "len"); intro _ _ _ _ _)
  | ((with_reducible refine' c_slDr ?h1 ?h2 ?_); (case h1 => walk_at "sl"); (case h2 => walk_at "len"); intro _ _ _ _ _))
local macro_rules | `(tactic| walk_at "at") => `(tactic| exact at_D0 (by omega))

local macro_rules | `(tactic| walk_at "own") => `(tactic| first
  | ((with_reducible refine' c_many ?h1 ?_); (case h1 => omega); intro _ _ _ _ _)
  | ((with_reducible refine' c_order ?h1 ?_); (case h1 => omega); intro _ _ _ _ _ _ _)
  | ((with_reducible refine' c_word ?h1 ?_); (case h1 => omega); intro _ _ _ _))

theorem semi_len : semi.length = 2 := by decide +kernel
theorem join_two : ∀ ts : List Str, ts ≠ [] → 2 * ts.length ≤ (Str.join semi ts).length + 2
  | [], h => absurd rfl h
  | [x], _ => by simp
  | x :: y :: r, _ => by
    have ih := join_two (y :: r) (by simp)
    show _ ≤ (x ++ semi ++ Str.join semi (y :: r)).length + 2
    rw [str_len_app, str_len_app, semi_len]
    simp only [List.length_cons] at ih ⊢
    omega
theorem join_one : ∀ (ts : List Str) (t : Str), t ∈ ts → t.length ≤ (Str.join semi ts).length
  | [], _, h => nomatch h
  | [x], t, h => by
    rcases List.mem_cons.mp h with rfl | h
    · exact Nat.le_refl _
    · exact nomatch h
  | x :: y :: r, t, h => by
    show t.length ≤ (x ++ semi ++ Str.join semi (y :: r)).length
    rw [str_len_app, str_len_app]
    rcases List.mem_cons.mp h with rfl | h
    · omega
    · have h1 := join_one (y :: r) t h
      omega
theorem split_two (u : Str) : (Txt.split u semi).length ≤ u.length + 1 := by
  by_cases h : Txt.split u semi = []
  · rw [h]; simp
  · have h1 := join_two _ h
    rw [← TL.join_eq, join_split'] at h1
    omega
theorem split_one {u p : Str} (h : p ∈ Txt.split u semi) : p.length ≤ u.length := by
  have h1 := join_one _ p h
  rw [← TL.join_eq, join_split'] at h1
  exact h1
section
variable {K : PySem.W.Frag} {C : Cl} {σ : L2.St} {H : Hp} {Q : VK} {te : TE} {j : Nat} {a : Addr}
theorem mvAt_same {H' : Hp} {p : Addr} {m : Mv} (s : Same H H') (h : MvAt C H p m) : MvAt C H' p m := by
  obtain ⟨h1, h2, dx, h3⟩ := h
  exact ⟨h1, h2, dx, s _ _ h3⟩
theorem mvAt_upd {D p : Addr} {m : Mv} {o : HO} (n : p ≠ D) (h : MvAt C H p m) : MvAt C (upd H D o) p m := by
  obtain ⟨h1, h2, dx, h3⟩ := h
  exact ⟨h1, h2, dx, by rw [upd_ne n]; exact h3⟩
/-- a new list of new moves -/
def NewMvs (C : Cl) (H0 H : Hp) (p : Addr) (ms : List Mv) : Prop := ∃ zs : List (Addr × Mv), H0 p = none ∧ Same H0 H ∧ H p = some (.lst (zs.map vZ)) ∧ zs.map (·.2) = ms ∧ ∀ z ∈ zs, z.1 ≠ p ∧ MvAt C H z.1 z.2
theorem l_lcMvs {α : Type} {f : α → V} {ns : List α} {vs : List Nat} (mv : α → Mv) (hx : SqL K H a (ns.map f)) (hn : ns.length < 1000000) (hw : ∀ x, wipe ((wipe σ vs).set j (some x)) vs = wipe σ vs)
    (he : ∀ x H' (q : VK), x ∈ ns → Same H H' → (∀ p H'', H' p = none → Same H' H'' → MvAt C H'' p (mv x) → q (.ref p) H'') → te ((wipe σ vs).set j (some (f x))) H' q)
    (k : ∀ p H', NewMvs C H H' p (ns.map mv) → Q (.ref p) H') : kLcL K (gName j) tYes te vs σ Q (.ref a) H := by
  refine ⟨a, rfl, ⟨_, hx⟩, fun D hD => ?_⟩
  refine lc_list (xs := ns.map f) (fun i H' => NewMvs C H H' D ((ns.take i).map mv)) ⟨[], hD, same_upd hD, upd_same, rfl, fun _ h => absurd h (List.not_mem_nil)⟩ (fun i H' _ w => sl_same w.choose_spec.2.1 hx) (fun i x H' hi w => ?_) (fun H' w => ?_)
  · obtain ⟨zs, h0, s, h1, h2, h3⟩ := w
    rw [List.getElem?_map] at hi
    obtain ⟨z, hz', rfl⟩ := Option.map_eq_some_iff.mp hi
    obtain ⟨post, e1, e2⟩ := take_mid hz'
    have hm : z ∈ ns := List.mem_of_getElem? hz'
    have hi' := (List.getElem?_eq_some_iff.mp hz').1
    refine ⟨hw _, ?_⟩
    refine c_yes.mpr ?_
    rw [if_pos rfl]
    refine he z H' _ hm s fun p H'' hp s' hp' => ?_
    have hl : zs.length = i := by
      have := congrArg List.length h2
      simp at this
      omega
    have hpD : p ≠ D := ne_new h1 hp
    refine ⟨zs.map vZ, s' _ _ h1, by rw [List.length_map, hl]; exact sz' (by omega), zs ++ [(p, mv z)], hD, ?_, ?_, ?_, fun y hy => ?_⟩
    · exact same_of_but hD (s.trans s') but_upd
    · rw [upd_same, List.map_append]
      rfl
    · rw [e2, List.map_append, List.map_append, h2]
      rfl
    · rcases List.mem_append.mp hy with hy | hy
      · have := h3 y hy
        exact ⟨this.1, mvAt_upd this.1 (mvAt_same s' this.2)⟩
      · rw [List.mem_singleton] at hy
        subst hy
        exact ⟨hpD, mvAt_upd hpD hp'⟩
  · rw [List.length_map, List.take_length] at w
    exact k D H' w
end
variable {K : PySem.W.Frag} {C : Cl} {vs : List V} {H : Hp} {Q : VK} {E : XK}
abbrev tStr (K : PySem.W.Frag) : TT := tNot (tB (tCB (rIsi K) (tCons (tVar 0) (tCons (tC (.ty "str")) tNil))))
abbrev tSpl (K : PySem.W.Frag) : TI := iList K (tBM K "str" rSplitS (tVar 0) (tCons (tC (.str "; ")) tNil))
def t_p_read (K : PySem.W.Frag) (C : Cl) : TS := tSeq (tIfS (tStr K) tNever tNext) (tSeq (tIfS (tTest (tOp rEq (tVar 0) (tC (.str "")))) (tRet (tLst tNil)) tNext)
  (tThru (tAsg (tLc (tSpl K) (gName 2) tYes (tCall (sp_p_move_in K C) [] C8.E0 (tCons (tVar 2) tNil)) [2]) (gName 1)) (tRet (tVar 1))))
abbrev n_p_read : List Str := ["text", "found", "one"]
theorem rd_p_read (h : sp_p_read K C vs H Q E) : t_p_read K C { nx := fun _ H' => Q .non H', rt := Q } (start n_p_read vs) H := by
  obtain ⟨u, ms, rfl, hu, hok, hr, kk⟩ := h
  show t_p_read K C _ [some (.str u), none, none] H
  unfold t_p_read
  refine c_seq (c_ifS (c_not (c_tB (c_CB (c_cons (c_var rfl (c_cons (c_c (c_nil (c_isiS kit_str_str (c_kB ?_)))))))))))
  refine if_f rfl (c_next (c_seq (c_ifS (c_tTest (c_op (c_var rfl (c_c (c_eqS (c_kB ?_)))))))))
  by_cases hms : ms = []
  · subst hms
    have e : u = "" := hr.symm
    refine if_t (decide_eq_true e) (c_ret (c_lst (c_nil (c_kLst (by simp) fun p H1 hp s1 hp1 => ?_))))
    exact kk p H1 [] hp s1 hp1 rfl fun _ h => absurd h (List.not_mem_nil)
  · have hne := routine_ne hok hms
    rw [hr] at hne
    refine if_f (decide_eq_false hne) (c_next ?_)
    show tAsg _ _ _ _ _
    refine c_asg (c_lcL (c_bm (c_var rfl (c_kBMs (c_cons (c_c (c_nil (c_splitS (by decide +kernel) (by omega) fun p H1 hp s1 hp1 => ?_))))))))
    have hsp := split_routine hok hms
    rw [hr] at hsp
    have hlen : ms.length < 1000000 := by
      have h1 := split_two u
      rw [hsp, List.length_map] at h1
      omega
    have hpl : ∀ m ∈ ms, (mvText m).length ≤ 100000 := fun m hm => by
      have h1 := split_one (u := u) (p := mvText m) (by rw [hsp]; exact List.mem_map.mpr ⟨m, hm, rfl⟩)
      omega
    have hp1 : H1 p = some (.lst ((Txt.split u semi).map V.str)) := hp1
    rw [hsp, List.map_map] at hp1
    refine l_lcMvs (C := C) (f := fun m => V.str (mvText m)) id (sl_of hp1) hlen (fun x => rfl) (fun m H2 q hm s2 k' => ?_) (fun q H2 hN => ?_)
    · refine c_call (c_cons (c_var rfl (c_nil ⟨_, rfl, hpl m hm, .inl ⟨m, hok m hm, rfl, fun p H3 hp3 s3 h3 => k' p H3 hp3 s3 h3⟩⟩)))
    · obtain ⟨zs, h0, s, h1, h2, h3⟩ := hN
      rw [List.map_id] at h2
      exact c_gn1 (c_ret (c_var rfl (kk q H2 zs (none_of_same h0 s1) (s1.trans s) h1 h2 h3)))
/-! ### read, what writes no routine -/
def tTryB (K : PySem.W.Frag) (C : Cl) (E : XK) (tl : TI) (te : XK → TE) (vs : List Nat) : TS := fun D σ H =>
  RfC.tLcB tl (gName 2) (te fun cls d H' => wOnly K (.ref C.cBadMove) (fun _ _ _ => tRaise E C.cBadText) (fun cls d _ H => E cls d H) { D with nx := fun _ _ => False } cls d σ H') vs σ H
def tb_p_read (K : PySem.W.Frag) (C : Cl) (E : XK) : TS := tSeq (tIfS (tStr K) (tRaise E C.cBadText) tNext) (tSeq (tIfS (tTest (tOp rEq (tVar 0) (tC (.str "")))) (tRet (tLst tNil)) tNext)
  (tTryB K C E (tSpl K) (fun E' => tCall (sp_p_move_in K C) [] E' (tCons (tVar 2) tNil)) [2]))
theorem first_bad {l : List Str} (h : ¬ ∀ p ∈ l, Good p) : ∃ (ms : List Mv) (b : Str) (post : List Str), l = ms.map mvText ++ b :: post ∧ (∀ m ∈ ms, m.Ok) ∧ ¬ Good b := by
  induction l with
  | nil => exact absurd (fun _ h => absurd h List.not_mem_nil) h
  | cons a l ih =>
    by_cases ha : Good a
    · obtain ⟨m, hm, rfl⟩ := ha
      obtain ⟨ms, b, post, e, h1, h2⟩ := ih fun q => h fun p hp => by
        rcases List.mem_cons.mp hp with rfl | hp
        · exact ⟨m, hm, rfl⟩
        · exact q p hp
      exact ⟨m :: ms, b, post, by rw [e]; rfl, fun x hx => by rcases List.mem_cons.mp hx with rfl | hx; exact hm; exact h1 x hx, h2⟩
    · exact ⟨[], a, l, rfl, fun _ h => absurd h List.not_mem_nil, ha⟩
theorem rd_b_p_read (hTM : PySem.W.exmOne K (.ref C.cBadText) (.ref C.cBadMove) = some false) (hMM : PySem.W.exmOne K (.ref C.cBadMove) (.ref C.cBadMove) = some true)
    (h : sp_p_readB K C vs H Q E) : tb_p_read K C E { nx := fun _ H' => Q .non H', rt := Q } (start n_p_read vs) H := by
  obtain ⟨v, rfl, ho, kk⟩ := h
  show tb_p_read K C E _ [some v, none, none] H
  unfold tb_p_read
  rcases ho with ⟨t, ht, hk⟩ | ⟨u, rfl, hu, hw⟩
  · refine c_seq (c_ifS (c_not (c_tB (c_CB (c_cons (c_var rfl (c_cons (c_c (c_nil (c_isi (.ty _) ht hk (c_kB ?_)))))))))))
    exact if_t rfl (kk _ (Same.refl _))
  · have hne : u ≠ "" := fun e => hw (.inl e)
    refine c_seq (c_ifS (c_not (c_tB (c_CB (c_cons (c_var rfl (c_cons (c_c (c_nil (c_isiS kit_str_str (c_kB ?_)))))))))))
    refine if_f rfl (c_next (c_seq (c_ifS (c_tTest (c_op (c_var rfl (c_c (c_eqS (c_kB ?_)))))))))
    refine if_f (decide_eq_false hne) (c_next ?_)
    obtain ⟨ms, b, post, e, hok, hb⟩ := first_bad fun z => hw (.inr z)
    refine (show tBM K "str" rSplitS (tVar 0) (tCons (tC (.str "; ")) tNil) _ _ _ from c_bm (c_var rfl (c_kBMs (c_cons (c_c (c_nil (c_splitS (by decide +kernel) (by omega) fun p H1 hp s1 hp1 => ?_)))))))
    have hl2 := split_two u
    rw [e, List.length_append, List.length_map, List.length_cons] at hl2
    have hp1 : H1 p = some (.lst ((Txt.split u semi).map V.str)) := hp1
    have hpc : ∀ q ∈ Txt.split u semi, q.length ≤ 100000 := fun q hq => by
      have := split_one hq
      omega
    refine ⟨p, rfl, ⟨_, sl_of hp1⟩, fun D hD => ?_⟩
    refine ⟨fun i m H' => i + m = ms.length ∧ Same H1 H' ∧ ∃ acc, H' D = some (.lst acc) ∧ acc.length = i, ⟨ms.length, by omega, same_upd hD, [], upd_same, rfl⟩, ?_⟩
    rintro i m H2 ⟨him, s2, acc, ha, hal⟩
    have hp2 := s2 _ _ hp1
    by_cases hi : i < ms.length
    · have hx : ((Txt.split u semi).map V.str)[i]? = some (V.str (mvText ms[i])) := by
        rw [e, List.getElem?_map, List.getElem?_append_left (by rw [List.length_map]; exact hi), List.getElem?_map, List.getElem?_eq_getElem hi]
        rfl
      refine ⟨⟨_, _, sl_of hp2, hx⟩, _, fun H' w => ⟨m - 1, by omega, w⟩, ?_⟩
      rintro x _ ⟨rfl, hx2⟩
      have hx3 := hx2 _ (sl_of hp2)
      rw [hx] at hx3
      obtain rfl := Option.some.inj hx3
      have hin : mvText ms[i] ∈ Txt.split u semi := by
        rw [e]
        exact List.mem_append_left _ (List.mem_map.mpr ⟨_, List.getElem_mem hi, rfl⟩)
      refine c_gn2 ⟨rfl, c_call (c_cons (c_var rfl (c_nil ⟨_, rfl, hpc _ hin, .inl ⟨ms[i], hok _ (List.getElem_mem hi), rfl, fun q H3 hq s3 _ => ?_⟩⟩)))⟩
      refine ⟨acc, s3 _ _ ha, by rw [hal]; exact sz' (by omega), by omega, ?_, _, upd_same, by simp [hal]⟩
      exact same_of_but hD (s2.trans s3) but_upd
    · have hi2 : i = ms.length := by omega
      have hx : ((Txt.split u semi).map V.str)[i]? = some (V.str b) := by
        rw [e, List.getElem?_map, hi2, List.getElem?_append_right (by simp)]
        simp
      have s12 : Same H H2 := s1.trans s2
      refine ⟨⟨_, _, sl_of hp2, hx⟩, fun _ => False, fun H' w => w.elim, ?_⟩
      rintro x _ ⟨rfl, hx2⟩
      have hx3 := hx2 _ (sl_of hp2)
      rw [hx] at hx3
      obtain rfl := Option.some.inj hx3
      have hin : b ∈ Txt.split u semi := by
        rw [e]
        exact List.mem_append_right _ (List.mem_cons_self ..)
      refine c_gn2 ⟨rfl, c_call (c_cons (c_var rfl (c_nil ⟨_, rfl, hpc _ hin, .inr ⟨hb, fun H3 s3 => ⟨?_, ?_⟩⟩⟩)))⟩
      · exact ⟨false, hTM, fun z => (by cases z), fun _ => kk _ (s12.trans s3)⟩
      · exact ⟨true, hMM, fun _ a _ => kk _ (s12.trans s3), fun z => (by cases z)⟩
end Rf

set_option Elab.async false
set_option linter.all false
set_option maxRecDepth 100000
set_option maxHeartbeats 4000000
namespace Rf
open PySem PySem.Spec L2 Rm
local macro_rules | `(tactic| walk_at "ne") => `(tactic| first | assumption | (apply Ne.symm; assumption) | exact ne_new (by walk_at "hp") (by assumption) | exact ne_old (by walk_at "hp") (by assumption))
local macro_rules | `(tactic| walk_at "hp") => `(tactic| first | assumption | exact get_same (by assumption) (by walk_at "hp") | exact get_but (by assumption) (by walk_at "ne") (by walk_at "hp"))
local macro_rules | `(tactic| walk_at "sl") => `(tactic| first | assumption | exact sl_of (by assumption) | exact sl_same (by assumption) (by walk_at "sl") | exact sl_but (by assumption) (by walk_at "ne") (by walk_at "sl"))
local macro_rules | `(tactic| walk_at "st") => `(tactic| first | assumption | exact st_of (by assumption) | exact st_same (by assumption) (by walk_at "st") | exact st_but (by assumption) (by walk_at "ne") (by walk_at "st"))
local macro_rules | `(tactic| walk_at "sm") => `(tactic| first | assumption | exact Same.refl _ | exact same_tr (by assumption) (by walk_at "sm") | exact same_bt (by assumption) (by walk_at "fr") (by walk_at "sm"))
local macro_rules | `(tactic| walk_at "fr") => `(tactic| first | assumption | exact none_of_same (by assumption) (by walk_at "sm"))
local macro_rules | `(tactic| walk_at "dec") => `(tactic| first | rfl | assumption | omega | (simp only [decide_eq_true_eq, decide_eq_false_iff_not, Bool.not_eq_true', Bool.not_eq_false', Bool.not_true, Bool.not_false, Bool.and_eq_true, Bool.or_eq_true, Bool.and_eq_false_iff, Bool.or_eq_false_iff, Bool.not_eq_true, Bool.not_eq_false] <;> first | omega | assumption | rfl | (constructor <;> omega)))
local macro_rules | `(tactic| walk_at "len") => `(tactic| first | decide | omega | (simp only [List.length_append, List.length_cons, List.length_nil, List.length_map, List.length_range, List.length_reverse, List.length_set, List.length_take, List.length_drop] <;> omega) | (simp <;> omega))
local macro_rules | `(tactic| walk_at "s") => `(tactic| first
  | (with_reducible refine c_seq ?_)
  | (with_reducible refine c_asg ?_)
  | (with_reducible refine c_op ?_)
  | ((with_reducible refine' c_var ?hv ?_); (case hv => exact rfl))
  | (with_reducible refine c_c ?_)
  | (with_reducible refine c_cons ?_)
  | (with_reducible refine c_nil ?_)
  | (with_reducible refine c_and1 ?_)
  | (with_reducible refine c_shr1 ?_)
  | (with_reducible refine c_i0 ?_)
  | ((with_reducible refine' c_mul ?hv ?_); (case hv => omega))
  | ((with_reducible refine' c_div ?hv ?_); (case hv => omega))
  | ((with_reducible refine' c_mod ?hv ?_); (case hv => omega))
  | (with_reducible refine c_un ?_)
  | (with_reducible refine c_iU ?_)
  | (with_reducible refine c_call ?_)
  | (with_reducible refine c_tTest ?_)
  | (with_reducible refine c_tB ?_)
  | (with_reducible refine c_kB ?_)
  | (with_reducible refine c_ifS ?_)
  | (with_reducible refine c_gn0 ?_)
  | (with_reducible refine c_gn1 ?_)
  | (with_reducible refine c_gn2 ?_)
  | (with_reducible refine c_gn3 ?_)
  | (with_reducible refine c_gn4 ?_)
  | (with_reducible refine c_gn5 ?_)
  | (with_reducible refine c_gn6 ?_)
  | (with_reducible refine c_gn7 ?_)
  | (with_reducible refine c_gn8 ?_)
  | (with_reducible refine c_gnS ?_)
  | (with_reducible refine c_eqI ?_)
  | (with_reducible refine c_neI ?_)
  | (with_reducible refine c_eqS ?_)
  | (with_reducible refine c_neS ?_)
  | (with_reducible refine c_eqB ?_)
  | (with_reducible refine c_neB ?_)
  | (with_reducible refine c_and ?_)
  | (with_reducible refine c_or ?_)
  | (with_reducible refine c_not ?_)
  | (with_reducible refine c_andV ?_)
  | (with_reducible refine c_orV ?_)
  | (with_reducible refine c_notV ?_)
  | (with_reducible refine c_ifE ?_)
  | (with_reducible refine c_tYes ?_)
  | (with_reducible refine c_chain ?_)
  | ((with_reducible refine' c_chLe ?hv ?_ ?hm); (case hv => exact ⟨rfl, rfl⟩); (case hm => exact fun R R' hh q => hh _ _ q))
  | ((with_reducible refine' c_chLe ?hv ?_ ?hm); (case hv => exact ⟨_, rfl, rfl, rfl⟩); (case hm => exact fun R R' hh ⟨v, e, q⟩ => ⟨v, e, hh _ _ q⟩))
  | (with_reducible refine c_tup ?_)
  | (with_reducible refine c_lst ?_)
  | ((with_reducible refine' c_kTup ?hv ?_); (case hv => walk_at "len"); intro _ _ _ _ _)
  | ((with_reducible refine' c_kLst ?hv ?_); (case hv => walk_at "len"); intro _ _ _ _ _)
  | ((with_reducible refine' c_ixL ?hv ?ha ?_); (case hv => walk_at "sl"); (case ha => walk_at "at"))
  | ((with_reducible refine' c_ixT ?hv ?ha ?_); (case hv => walk_at "st"); (case ha => walk_at "at"))
  | ((with_reducible refine' c_cat ?hv ?ha ?hz ?_); (case hv => walk_at "hp"); (case ha => walk_at "hp"); (case hz => walk_at "len"); intro _ _ _ _ _)
  | ((with_reducible refine' c_addS ?hv ?_); (case hv => walk_at "len"))
  | (with_reducible refine c_sl ?_)
  | (with_reducible refine c_noP ?_)
  | (with_reducible refine c_part ?_)
  | (with_reducible refine c_kPart ?_)
  | ((with_reducible refine' c_slL ?hv ?_); (case hv => walk_at "sl"); intro _ _ _ _ _)
  | ((with_reducible refine' c_slX ?hv ?_); (case hv => walk_at "len"))
  | (with_reducible refine c_rev ?_)
  | ((with_reducible refine' c_kRev ?hv ?_); (case hv => walk_at "sl"); intro _ _ _ _ _)
  | (with_reducible refine c_CB ?_)
  | ((with_reducible refine' c_lenM ?hv ?_); (case hv => walk_at "sl"))
  | ((with_reducible refine' c_lenL ?hv ?_); (case hv => walk_at "sl"))
  | ((with_reducible refine' c_lenS ?hv ?_); (case hv => walk_at "len"))
  | ((with_reducible refine' c_listOf ?hv ?_); (case hv => walk_at "sl"); intro _ _ _ _ _)
  | (with_reducible refine c_min2 ?_)
  | (with_reducible refine c_listRg ?_)
  | (with_reducible refine c_rg1 ?_)
  | (with_reducible refine c_kRg1 ?_)
  | (with_reducible refine c_rg2 ?_)
  | (with_reducible refine c_kRg2 ?_)
  | ((with_reducible refine' c_kRgN ?hv ?_); (case hv => omega); intro _ _ _ _ _)
  | ((with_reducible refine' c_kRgN2 ?hv ?ha ?_); (case hv => omega); (case ha => omega); intro _ _ _ _ _)
  | ((with_reducible refine' c_kRg ?hv ?ha ?_); (case hv => omega); (case ha => omega); intro _ _ _ _ _)
  | (with_reducible refine c_lenSet ?_)
  | (with_reducible refine c_meth ?_)
  | (with_reducible refine c_methA ?_)
  | (with_reducible refine c_make ?_)
  | ((with_reducible refine c_makeO ?_); intro _ _ _ _ _ _)
  | (with_reducible refine c_fld ?_)
  | (with_reducible refine c_bm ?_)
  | (with_reducible refine c_bm0 ?_)
  | ((with_reducible refine' c_kBMl ?hv ?_); (case hv => walk_at "sl"))
  | ((with_reducible refine' c_kBM0l ?hv ?_); (case hv => walk_at "sl"))
  | (with_reducible refine c_kBMs ?_)
  | (with_reducible refine c_kBM0s ?_)
  | ((with_reducible refine' c_append ?hv ?hz ?_); (case hv => walk_at "hp"); (case hz => walk_at "len"); intro _ _ _)
  | ((with_reducible refine' c_extend ?hv ?ha ?hz ?_); (case hv => walk_at "hp"); (case ha => walk_at "hp"); (case hz => walk_at "len"); intro _ _ _)
  | ((with_reducible refine' c_reverse ?hv ?_); (case hv => walk_at "hp"); intro _ _ _)
  | ((with_reducible refine' c_clear ?hv ?_); (case hv => walk_at "hp"); intro _ _ _)
  | ((with_reducible refine' c_gtup ?hv ?ha ?_); (case hv => walk_at "st"); (case ha => exact rfl))
  | (with_reducible refine c_gnil ?_)
  | (with_reducible refine c_gcons ?_)
  | (with_reducible refine c_gsub ?_)
  | (with_reducible refine c_next ?_)
  | (with_reducible refine c_par ?_)
  | (with_reducible refine c_kPar ?_)
  | ((with_reducible refine' c_aug ?hv ?_); (case hv => exact rfl))
  | (with_reducible refine c_ipI ?_)
  | (with_reducible refine c_drop ?_)
  | (with_reducible refine c_ret ?_)
  | (with_reducible refine c_retN ?_)
  | (with_reducible refine c_sfld ?_)
  | (with_reducible refine c_forL ?_)
  | (with_reducible refine c_for1 ?_)
  | (with_reducible refine c_for2 ?_)
  | (with_reducible refine c_forS ?_)
  | (with_reducible refine c_forRev ?_)
  | (with_reducible refine c_lcL ?_)
  | (with_reducible refine c_lc1 ?_)
  | (refine if_f (by walk_at "dec") ?_)
  | (refine if_t (by walk_at "dec") ?_)
  | walk_at "own")
local macro_rules | `(tactic| walk_at "go") => `(tactic| repeat walk_at "s")

local macro_rules | `(tactic| walk_at "kit") => `(tactic| first | exact kit_int_int | exact kit_int_bool | exact kit_int_str | exact kit_int_list | exact kit_list_list | exact kit_list_int | exact kit_list_bool | exact kit_str_str | exact kit_str_int | exact kit_str_list | exact kit_bool_bool | exact kit_bool_int | exact kit_bool_list)
local macro_rules | `(tactic| walk_at "own") => `(tactic| first
  | ((with_reducible refine' c_isiI ?h3 ?_); (case h3 => walk_at "kit"))
  | ((with_reducible refine' c_isiL ?h1 ?h3 ?_); (case h1 => walk_at "sl"); (case h3 => walk_at "kit"))
  | ((with_reducible refine' c_isiS ?h3 ?_); (case h3 => walk_at "kit"))
  | ((with_reducible refine' c_isiB ?h3 ?_); (case h3 => walk_at "kit"))
  | (with_reducible refine c_within ?_))
local macro_rules | `(tactic| walk_at "tn") => `(tactic| first | exact tn_nat _ | exact tn_add _ _ | exact tn_sub1 _ (by omega) | exact tn_sub _ _ (by omega) | exact rfl)
local macro_rules | `(tactic| walk_at "at") => `(tactic| first | exact at_DN (by walk_at "tn") (by omega) (by omega) | exact at_DI (by walk_at "tn") (by omega) (by omega) | rfl | assumption | exact at_map (by assumption) (by first | rfl | omega))


local macro_rules | `(tactic| walk_at "own") => `(tactic| first
  | ((with_reducible refine' c_cell_at ?h1 ?h2 ?_); (case h1 => walk_at "sl"); (case h2 => omega))
  | ((with_reducible refine' c_draw ?h1 ?h2 ?_); (case h1 => omega); (case h2 => omega); intro _ _)
  | ((with_reducible refine' c_inN ?h1 ?_); (case h1 => walk_at "sl"))
  | ((with_reducible refine' c_ninN ?h1 ?_); (case h1 => walk_at "sl"))
  | ((with_reducible refine' c_eqLst leaf_nat ?h1 ?h2 ?_); (case h1 => walk_at "sl"); (case h2 => walk_at "sl"))
  | ((with_reducible refine' c_neLst leaf_nat ?h1 ?h2 ?_); (case h1 => walk_at "sl"); (case h2 => walk_at "sl")))

local macro_rules | `(tactic| walk_at "own") => `(tactic| first
  | ((with_reducible refine' c_drawB ?h1 ?h2 ?_); (case h1 => omega); (case h2 => omega); intro _ _ _ _)
  | (with_reducible refine c_dnew ?_; intro _ _ _ _ _)
  | (with_reducible refine c_dget ?_)
  | (with_reducible refine c_dput ?_)
  | (with_reducible refine c_eqSg ?_)
  | (with_reducible refine c_countW ?_)
  | ((with_reducible refine' c_stripW ?h1 ?_); (case h1 => omega))
  | ((with_reducible refine' c_setLN ?h1 ?h2 ?_); (case h1 => walk_at "hp"); (case h2 => walk_at "len"); intro _ _ _))
local macro_rules | `(tactic| walk_at "s") => `(tactic| first
  | ((with_reducible refine' c_slTk ?h1 ?h2 ?_); (case h1 => walk_at "sl"); (case h2 => walk_at "len"); intro _ _ _ _ _)
  | ((with_reducible refine' c_slD1 ?h1 ?h2 ?_); (case h1 => walk_at "sl"); (case h2 => walk_at "len"); intro _ _ _ _ _)
  | ((with_reducible refine' c_slDr ?h1 ?h2 ?_); (case h1 => walk_at "sl"); (case h2 => walk_at "len"); intro _ _ _ _ _))
local macro_rules | `(tactic| walk_at "at") => `(tactic| exact at_D0 (by omega))

local macro_rules | `(tactic| walk_at "own") => `(tactic| first
  | ((with_reducible refine' c_many ?h1 ?_); (case h1 => omega); intro _ _ _ _ _)
  | ((with_reducible refine' c_order ?h1 ?_); (case h1 => omega); intro _ _ _ _ _ _ _)
  | ((with_reducible refine' c_word ?h1 ?_); (case h1 => omega); intro _ _ _ _))

variable {K : PySem.W.Frag} {C : Cl} {vs : List V} {H : Hp} {Q : VK} {E : XK}
/-! ### refused -/
abbrev iv (K : PySem.W.Frag) (a : Addr) (cls : Value) (d : Option Addr) (c : V) : TE := tCB (rIsV K a cls d) (tCons (tVar 1) (tCons (tC c) tNil))
def t_l_refused_s (K : PySem.W.Frag) (C : Cl) : Addr → Value → Option Addr → TS := fun a cls d => tSeq (tAsg (tOrV (iv K a cls d (.ref C.cBadMove)) (tOrV (iv K a cls d (.ref C.cBadNumber)) (iv K a cls d (.ref C.cBadOrder)))) (gName 2))
  (tRet (tAndV (iv K a cls d (.ref C.cBadText)) (tAndV (iv K a cls d (.ty "ValueError")) (tNotV (tVar 2)))))
def t_l_refused_b (K : PySem.W.Frag) (C : Cl) (W : WX) : TS := tDrop (tCallS (sp_p_readB K C) (WE W) (tCons (tVar 0) tNil))
def t_l_refused (K : PySem.W.Frag) (C : Cl) : TS := tSeq (fun D σ H => t_l_refused_b K C (wAs K (.ref C.cPackError) 1 (t_l_refused_s K C) (fun _ _ _ _ => False) D) D σ H) (tRet (tC (.bl false)))
theorem takesF {X : Cx} : Takes X (fun _ _ _ _ => False) := fun _ _ x => by
  obtain ⟨_, _, _, _, _, _, _, _, _, _, _, _, _, _, _, _, none⟩ := x
  exact none.elim
abbrev n_l_refused : List Str := ["_law_text_here", "error", "_law_others"]
theorem rel_ref {c : Addr} : ∀ u, RelV (.ref c) u → u = .ref c := fun u h => by cases h; rfl
theorem rel_ve : ∀ u, RelV (.ty "ValueError") u → u = .type "ValueError" := fun u h => h
theorem rd_l_refused {mg : Str → Option Value} (X : XF K mg C) (h : sp_l_refused K C vs H Q E) : t_l_refused K C { nx := fun _ H' => Q .non H', rt := Q } (start n_l_refused vs) H := by
  obtain ⟨v, rfl, ho, kk⟩ := h
  show t_l_refused K C _ [some v, none, none] H
  unfold t_l_refused
  refine c_seq ?_
  unfold t_l_refused_b
  refine c_drop (show tCons (tVar 0) tNil _ _ _ from c_cons (c_var rfl (c_nil ⟨v, rfl, ho, fun H1 s1 => ?_⟩)))
  refine ⟨true, X.mTP, fun _ a ha => ?_, fun z => by cases z⟩
  unfold t_l_refused_s
  show tSeq _ _ _ [some v, some (.ref a), none] H1
  refine c_seq (c_asg (c_orV (c_CB (c_cons (c_var rfl (c_cons (c_c (c_nil (c_isV X.xc rel_ref X.kM (c_kB (if_f rfl ?_)))))))))))
  refine c_orV (c_CB (c_cons (c_var rfl (c_cons (c_c (c_nil (c_isV X.xc rel_ref X.kN (c_kB (if_f rfl ?_)))))))))
  refine c_CB (c_cons (c_var rfl (c_cons (c_c (c_nil (c_isV X.xc rel_ref X.kO (c_gn2 ?_)))))))
  refine c_ret (c_andV (c_CB (c_cons (c_var rfl (c_cons (c_c (c_nil (c_isV X.xc rel_ref X.kT (c_kB (if_t rfl ?_))))))))))
  refine c_andV (c_CB (c_cons (c_var rfl (c_cons (c_c (c_nil (c_isV X.xc rel_ve X.kV (c_kB (if_t rfl ?_)))))))))
  exact c_notV (c_var rfl (c_kB (kk _ s1)))
/-! ### a told move's text -/
def t_l_text (K : PySem.W.Frag) (C : Cl) : TS := (tSeq (tAsg (tVar 0) (gTup K 2 (gCons (gName 1) (gCons (gName 2) gNil)))) (tSeq (tAsg (tOp (rIxT K) (tTup (tCons (tC (.str "cut ")) (tCons (tC (.str "turn")) (tCons (tC (.str "deal ")) (tCons (tC (.str "under")) (tCons (tC (.str "weave ")) (tCons (tC (.str "riffle ")) tNil))))))) (tVar 1)) (gName 3)) (tRet (tIf (tTest (tOp (rIn K false) (tVar 1) (tTup (tCons (tC (.int 1)) (tCons (tC (.int 3)) tNil))))) (tVar 3) (tOp rAddS (tVar 3) (tCB rStrV (tCons (tVar 2) tNil)))))))
abbrev n_l_text : List Str := ["_law_told_here", "_law_sort", "_law_thing", "_law_word_here"]
theorem c_strS {σ : L2.St} {w : Str} (k : Q (.str w) H) : rStrV [.str w] H Q := .inr ⟨w, rfl, k⟩
theorem c_strN {n : Nat} (h : n ≤ 1000) (k : Q (.str (numS n)) H) : rStrV [vN n] H Q := .inl (c_strI (by omega) k)
theorem rd_l_text (h : sp_l_text K C vs H Q E) : t_l_text K C { nx := fun _ H' => Q .non H', rt := Q } (start n_l_text vs) H := by
  obtain ⟨t, m, rfl, ht, hok, kk⟩ := h
  show t_l_text K C _ [some (.ref t), none, none, none] H
  unfold t_l_text
  refine c_seq (c_asg (c_var rfl (c_gtup ht rfl (c_gcons (c_gn1 (c_gcons (c_gn2 (c_gnil ?_))))))))
  refine c_seq (c_asg (c_op (c_tup (c_cons (c_c (c_cons (c_c (c_cons (c_c (c_cons (c_c (c_cons (c_c (c_cons (c_c (c_nil (c_kTup (by simp) fun p H1 hp s1 hp1 => ?_)))))))))))))))))
  have hn : ∀ {n : Nat} {w : Str} {H2 : Hp}, Same H H2 → n ≤ 60 → w.length ≤ 100 → (∀ H', Same H H' → Q (.str (w ++ numS n)) H') → rAddS (.str w) (.str (numS n)) H2 Q := fun {n w H2} s hn hw k => by
    have h1 := one_or_two n
    have h2 := num_len hn
    exact c_addS (by rw [h2]; omega) (k _ s)
  cases m with
  | cut n =>
    have hok : n ≤ 60 := hok
    refine c_var rfl (c_ixT (n := 0) (v := .str "cut ") (st_of hp1) rfl (c_gn3 ?_))
    refine c_ret (c_ifE (c_tTest (c_op (c_var rfl (c_tup (c_cons (c_c (c_cons (c_c (c_nil (c_kTup (by simp) fun q H2 hq s2 hq2 => c_inT (q := false) (st_of hq2) rfl rfl (show inV (vN 0) [V.int 1, V.int 3] = _ by decide +kernel) (c_kB (if_f rfl ?_)))))))))))))
    exact c_op (c_var rfl (c_CB (c_cons (c_var rfl (c_nil (c_strN (by omega) (hn (s1.trans s2) hok (by decide +kernel) kk)))))))
  | turn =>
    refine c_var rfl (c_ixT (n := 1) (v := .str "turn") (st_of hp1) rfl (c_gn3 ?_))
    refine c_ret (c_ifE (c_tTest (c_op (c_var rfl (c_tup (c_cons (c_c (c_cons (c_c (c_nil (c_kTup (by simp) fun q H2 hq s2 hq2 => c_inT (q := true) (st_of hq2) rfl rfl (show inV (vN 1) [V.int 1, V.int 3] = _ by decide +kernel) (c_kB (if_t rfl ?_)))))))))))))
    exact c_var rfl (kk _ (s1.trans s2))
  | deal n =>
    have hok : n ≤ 60 := hok.2
    refine c_var rfl (c_ixT (n := 2) (v := .str "deal ") (st_of hp1) rfl (c_gn3 ?_))
    refine c_ret (c_ifE (c_tTest (c_op (c_var rfl (c_tup (c_cons (c_c (c_cons (c_c (c_nil (c_kTup (by simp) fun q H2 hq s2 hq2 => c_inT (q := false) (st_of hq2) rfl rfl (show inV (vN 2) [V.int 1, V.int 3] = _ by decide +kernel) (c_kB (if_f rfl ?_)))))))))))))
    exact c_op (c_var rfl (c_CB (c_cons (c_var rfl (c_nil (c_strN (by omega) (hn (s1.trans s2) hok (by decide +kernel) kk)))))))
  | under =>
    refine c_var rfl (c_ixT (n := 3) (v := .str "under") (st_of hp1) rfl (c_gn3 ?_))
    refine c_ret (c_ifE (c_tTest (c_op (c_var rfl (c_tup (c_cons (c_c (c_cons (c_c (c_nil (c_kTup (by simp) fun q H2 hq s2 hq2 => c_inT (q := true) (st_of hq2) rfl rfl (show inV (vN 3) [V.int 1, V.int 3] = _ by decide +kernel) (c_kB (if_t rfl ?_)))))))))))))
    exact c_var rfl (kk _ (s1.trans s2))
  | weave n =>
    have hok : n ≤ 1 := hok
    refine c_var rfl (c_ixT (n := 4) (v := .str "weave ") (st_of hp1) rfl (c_gn3 ?_))
    refine c_ret (c_ifE (c_tTest (c_op (c_var rfl (c_tup (c_cons (c_c (c_cons (c_c (c_nil (c_kTup (by simp) fun q H2 hq s2 hq2 => c_inT (q := false) (st_of hq2) rfl rfl (show inV (vN 4) [V.int 1, V.int 3] = _ by decide +kernel) (c_kB (if_f rfl ?_)))))))))))))
    exact c_op (c_var rfl (c_CB (c_cons (c_var rfl (c_nil (c_strN (by omega) (hn (s1.trans s2) (by omega) (by decide +kernel) kk)))))))
  | riffle w =>
    have hw := hok.2
    have hwl := wS_len w
    refine c_var rfl (c_ixT (n := 5) (v := .str "riffle ") (st_of hp1) rfl (c_gn3 ?_))
    refine c_ret (c_ifE (c_tTest (c_op (c_var rfl (c_tup (c_cons (c_c (c_cons (c_c (c_nil (c_kTup (by simp) fun q H2 hq s2 hq2 => c_inT (q := false) (st_of hq2) rfl rfl (show inV (vN 5) [V.int 1, V.int 3] = _ by decide +kernel) (c_kB (if_f rfl ?_)))))))))))))
    have h7 : (Str.ofString "riffle ").length = 7 := by decide +kernel
    refine c_op (c_var rfl (c_CB (c_cons (c_var rfl (c_nil (.inr ⟨wS w, rfl, c_addS ?_ (kk _ (s1.trans s2))⟩))))))
    show (Str.ofString "riffle ").length + _ ≤ _
    omega
end Rf

set_option Elab.async false
set_option linter.all false
set_option maxRecDepth 100000
set_option maxHeartbeats 4000000
namespace Rf
open PySem PySem.Spec L2 Rm
local macro_rules | `(tactic| walk_at "ne") => `(tactic| first | assumption | (apply Ne.symm; assumption) | exact ne_new (by walk_at "hp") (by assumption) | exact ne_old (by walk_at "hp") (by assumption))
local macro_rules | `(tactic| walk_at "hp") => `(tactic| first | assumption | exact get_same (by assumption) (by walk_at "hp") | exact get_but (by assumption) (by walk_at "ne") (by walk_at "hp"))
local macro_rules | `(tactic| walk_at "sl") => `(tactic| first | assumption | exact sl_of (by assumption) | exact sl_same (by assumption) (by walk_at "sl") | exact sl_but (by assumption) (by walk_at "ne") (by walk_at "sl"))
local macro_rules | `(tactic| walk_at "st") => `(tactic| first | assumption | exact st_of (by assumption) | exact st_same (by assumption) (by walk_at "st") | exact st_but (by assumption) (by walk_at "ne") (by walk_at "st"))
local macro_rules | `(tactic| walk_at "sm") => `(tactic| first | assumption | exact Same.refl _ | exact same_tr (by assumption) (by walk_at "sm") | exact same_bt (by assumption) (by walk_at "fr") (by walk_at "sm"))
local macro_rules | `(tactic| walk_at "fr") => `(tactic| first | assumption | exact none_of_same (by assumption) (by walk_at "sm"))
local macro_rules | `(tactic| walk_at "dec") => `(tactic| first | rfl | assumption | omega | (simp only [decide_eq_true_eq, decide_eq_false_iff_not, Bool.not_eq_true', Bool.not_eq_false', Bool.not_true, Bool.not_false, Bool.and_eq_true, Bool.or_eq_true, Bool.and_eq_false_iff, Bool.or_eq_false_iff, Bool.not_eq_true, Bool.not_eq_false] <;> first | omega | assumption | rfl | (constructor <;> omega)))
local macro_rules | `(tactic| walk_at "len") => `(tactic| first | decide | omega | (simp only [List.length_append, List.length_cons, List.length_nil, List.length_map, List.length_range, List.length_reverse, List.length_set, List.length_take, List.length_drop] <;> omega) | (simp <;> omega))
local macro_rules | `(tactic| walk_at "s") => `(tactic| first
  | (with_reducible refine c_seq ?_)
  | (with_reducible refine c_asg ?_)
  | (with_reducible refine c_op ?_)
  | ((with_reducible refine' c_var ?hv ?_); (case hv => exact rfl))
  | (with_reducible refine c_c ?_)
  | (with_reducible refine c_cons ?_)
  | (with_reducible refine c_nil ?_)
  | (with_reducible refine c_and1 ?_)
  | (with_reducible refine c_shr1 ?_)
  | (with_reducible refine c_i0 ?_)
  | ((with_reducible refine' c_mul ?hv ?_); (case hv => omega))
  | ((with_reducible refine' c_div ?hv ?_); (case hv => omega))
  | ((with_reducible refine' c_mod ?hv ?_); (case hv => omega))
  | (with_reducible refine c_un ?_)
  | (with_reducible refine c_iU ?_)
  | (with_reducible refine c_call ?_)
  | (with_reducible refine c_tTest ?_)
  | (with_reducible refine c_tB ?_)
  | (with_reducible refine c_kB ?_)
  | (with_reducible refine c_ifS ?_)
  | (with_reducible refine c_gn0 ?_)
  | (with_reducible refine c_gn1 ?_)
  | (with_reducible refine c_gn2 ?_)
  | (with_reducible refine c_gn3 ?_)
  | (with_reducible refine c_gn4 ?_)
  | (with_reducible refine c_gn5 ?_)
  | (with_reducible refine c_gn6 ?_)
  | (with_reducible refine c_gn7 ?_)
  | (with_reducible refine c_gn8 ?_)
  | (with_reducible refine c_gnS ?_)
  | (with_reducible refine c_eqI ?_)
  | (with_reducible refine c_neI ?_)
  | (with_reducible refine c_eqS ?_)
  | (with_reducible refine c_neS ?_)
  | (with_reducible refine c_eqB ?_)
  | (with_reducible refine c_neB ?_)
  | (with_reducible refine c_and ?_)
  | (with_reducible refine c_or ?_)
  | (with_reducible refine c_not ?_)
  | (with_reducible refine c_andV ?_)
  | (with_reducible refine c_orV ?_)
  | (with_reducible refine c_notV ?_)
  | (with_reducible refine c_ifE ?_)
  | (with_reducible refine c_tYes ?_)
  | (with_reducible refine c_chain ?_)
  | ((with_reducible refine' c_chLe ?hv ?_ ?hm); (case hv => exact ⟨rfl, rfl⟩); (case hm => exact fun R R' hh q => hh _ _ q))
  | ((with_reducible refine' c_chLe ?hv ?_ ?hm); (case hv => exact ⟨_, rfl, rfl, rfl⟩); (case hm => exact fun R R' hh ⟨v, e, q⟩ => ⟨v, e, hh _ _ q⟩))
  | (with_reducible refine c_tup ?_)
  | (with_reducible refine c_lst ?_)
  | ((with_reducible refine' c_kTup ?hv ?_); (case hv => walk_at "len"); intro _ _ _ _ _)
  | ((with_reducible refine' c_kLst ?hv ?_); (case hv => walk_at "len"); intro _ _ _ _ _)
  | ((with_reducible refine' c_ixL ?hv ?ha ?_); (case hv => walk_at "sl"); (case ha => walk_at "at"))
  | ((with_reducible refine' c_ixT ?hv ?ha ?_); (case hv => walk_at "st"); (case ha => walk_at "at"))
  | ((with_reducible refine' c_cat ?hv ?ha ?hz ?_); (case hv => walk_at "hp"); (case ha => walk_at "hp"); (case hz => walk_at "len"); intro _ _ _ _ _)
  | ((with_reducible refine' c_addS ?hv ?_); (case hv => walk_at "len"))
  | (with_reducible refine c_sl ?_)
  | (with_reducible refine c_noP ?_)
  | (with_reducible refine c_part ?_)
  | (with_reducible refine c_kPart ?_)
  | ((with_reducible refine' c_slL ?hv ?_); (case hv => walk_at "sl"); intro _ _ _ _ _)
  | ((with_reducible refine' c_slX ?hv ?_); (case hv => walk_at "len"))
  | (with_reducible refine c_rev ?_)
  | ((with_reducible refine' c_kRev ?hv ?_); (case hv => walk_at "sl"); intro _ _ _ _ _)
  | (with_reducible refine c_CB ?_)
  | ((with_reducible refine' c_lenM ?hv ?_); (case hv => walk_at "sl"))
  | ((with_reducible refine' c_lenL ?hv ?_); (case hv => walk_at "sl"))
  | ((with_reducible refine' c_lenS ?hv ?_); (case hv => walk_at "len"))
  | ((with_reducible refine' c_listOf ?hv ?_); (case hv => walk_at "sl"); intro _ _ _ _ _)
  | (with_reducible refine c_min2 ?_)
  | (with_reducible refine c_listRg ?_)
  | (with_reducible refine c_rg1 ?_)
  | (with_reducible refine c_kRg1 ?_)
  | (with_reducible refine c_rg2 ?_)
  | (with_reducible refine c_kRg2 ?_)
  | ((with_reducible refine' c_kRgN ?hv ?_); (case hv => omega); intro _ _ _ _ _)
  | ((with_reducible refine' c_kRgN2 ?hv ?ha ?_); (case hv => omega); (case ha => omega); intro _ _ _ _ _)
  | ((with_reducible refine' c_kRg ?hv ?ha ?_); (case hv => omega); (case ha => omega); intro _ _ _ _ _)
  | (with_reducible refine c_lenSet ?_)
  | (with_reducible refine c_meth ?_)
  | (with_reducible refine c_methA ?_)
  | (with_reducible refine c_make ?_)
  | ((with_reducible refine c_makeO ?_); intro _ _ _ _ _ _)
  | (with_reducible refine c_fld ?_)
  | (with_reducible refine c_bm ?_)
  | (with_reducible refine c_bm0 ?_)
  | ((with_reducible refine' c_kBMl ?hv ?_); (case hv => walk_at "sl"))
  | ((with_reducible refine' c_kBM0l ?hv ?_); (case hv => walk_at "sl"))
  | (with_reducible refine c_kBMs ?_)
  | (with_reducible refine c_kBM0s ?_)
  | ((with_reducible refine' c_append ?hv ?hz ?_); (case hv => walk_at "hp"); (case hz => walk_at "len"); intro _ _ _)
  | ((with_reducible refine' c_extend ?hv ?ha ?hz ?_); (case hv => walk_at "hp"); (case ha => walk_at "hp"); (case hz => walk_at "len"); intro _ _ _)
  | ((with_reducible refine' c_reverse ?hv ?_); (case hv => walk_at "hp"); intro _ _ _)
  | ((with_reducible refine' c_clear ?hv ?_); (case hv => walk_at "hp"); intro _ _ _)
  | ((with_reducible refine' c_gtup ?hv ?ha ?_); (case hv => walk_at "st"); (case ha => exact rfl))
  | (with_reducible refine c_gnil ?_)
  | (with_reducible refine c_gcons ?_)
  | (with_reducible refine c_gsub ?_)
  | (with_reducible refine c_next ?_)
  | (with_reducible refine c_par ?_)
  | (with_reducible refine c_kPar ?_)
  | ((with_reducible refine' c_aug ?hv ?_); (case hv => exact rfl))
  | (with_reducible refine c_ipI ?_)
  | (with_reducible refine c_drop ?_)
  | (with_reducible refine c_ret ?_)
  | (with_reducible refine c_retN ?_)
  | (with_reducible refine c_sfld ?_)
  | (with_reducible refine c_forL ?_)
  | (with_reducible refine c_for1 ?_)
  | (with_reducible refine c_for2 ?_)
  | (with_reducible refine c_forS ?_)
  | (with_reducible refine c_forRev ?_)
  | (with_reducible refine c_lcL ?_)
  | (with_reducible refine c_lc1 ?_)
  | (refine if_f (by walk_at "dec") ?_)
  | (refine if_t (by walk_at "dec") ?_)
  | walk_at "own")
local macro_rules | `(tactic| walk_at "go") => `(tactic| repeat walk_at "s")

local macro_rules | `(tactic| walk_at "kit") => `(tactic| first | exact kit_int_int | exact kit_int_bool | exact kit_int_str | exact kit_int_list | exact kit_list_list | exact kit_list_int | exact kit_list_bool | exact kit_str_str | exact kit_str_int | exact kit_str_list | exact kit_bool_bool | exact kit_bool_int | exact kit_bool_list)
local macro_rules | `(tactic| walk_at "own") => `(tactic| first
  | ((with_reducible refine' c_isiI ?h3 ?_); (case h3 => walk_at "kit"))
  | ((with_reducible refine' c_isiL ?h1 ?h3 ?_); (case h1 => walk_at "sl"); (case h3 => walk_at "kit"))
  | ((with_reducible refine' c_isiS ?h3 ?_); (case h3 => walk_at "kit"))
  | ((with_reducible refine' c_isiB ?h3 ?_); (case h3 => walk_at "kit"))
  | (with_reducible refine c_within ?_))
local macro_rules | `(tactic| walk_at "tn") => `(tactic| first | exact tn_nat _ | exact tn_add _ _ | exact tn_sub1 _ (by omega) | exact tn_sub _ _ (by omega) | exact rfl)
local macro_rules | `(tactic| walk_at "at") => `(tactic| first | exact at_DN (by walk_at "tn") (by omega) (by omega) | exact at_DI (by walk_at "tn") (by omega) (by omega) | rfl | assumption | exact at_map (by assumption) (by first | rfl | omega))


local macro_rules | `(tactic| walk_at "own") => `(tactic| first
  | ((with_reducible refine' c_cell_at ?h1 ?h2 ?_); (case h1 => walk_at "sl"); (case h2 => omega))
  | ((with_reducible refine' c_draw ?h1 ?h2 ?_); (case h1 => omega); (case h2 => omega); intro _ _)
  | ((with_reducible refine' c_inN ?h1 ?_); (case h1 => walk_at "sl"))
  | ((with_reducible refine' c_ninN ?h1 ?_); (case h1 => walk_at "sl"))
  | ((with_reducible refine' c_eqLst leaf_nat ?h1 ?h2 ?_); (case h1 => walk_at "sl"); (case h2 => walk_at "sl"))
  | ((with_reducible refine' c_neLst leaf_nat ?h1 ?h2 ?_); (case h1 => walk_at "sl"); (case h2 => walk_at "sl")))

local macro_rules | `(tactic| walk_at "own") => `(tactic| first
  | ((with_reducible refine' c_drawB ?h1 ?h2 ?_); (case h1 => omega); (case h2 => omega); intro _ _ _ _)
  | (with_reducible refine c_dnew ?_; intro _ _ _ _ _)
  | (with_reducible refine c_dget ?_)
  | (with_reducible refine c_dput ?_)
  | (with_reducible refine c_eqSg ?_)
  | (with_reducible refine c_countW ?_)
  | ((with_reducible refine' c_stripW ?h1 ?_); (case h1 => omega))
  | ((with_reducible refine' c_setLN ?h1 ?h2 ?_); (case h1 => walk_at "hp"); (case h2 => walk_at "len"); intro _ _ _))
local macro_rules | `(tactic| walk_at "s") => `(tactic| first
  | ((with_reducible refine' c_slTk ?h1 ?h2 ?_); (case h1 => walk_at "sl"); (case h2 => walk_at "len"); intro _ _ _ _ _)
  | ((with_reducible refine' c_slD1 ?h1 ?h2 ?_); (case h1 => walk_at "sl"); (case h2 => walk_at "len"); intro _ _ _ _ _)
  | ((with_reducible refine' c_slDr ?h1 ?h2 ?_); (case h1 => walk_at "sl"); (case h2 => walk_at "len"); intro _ _ _ _ _))
local macro_rules | `(tactic| walk_at "at") => `(tactic| exact at_D0 (by omega))

local macro_rules | `(tactic| walk_at "own") => `(tactic| first
  | ((with_reducible refine' c_many ?h1 ?_); (case h1 => omega); intro _ _ _ _ _)
  | ((with_reducible refine' c_order ?h1 ?_); (case h1 => omega); intro _ _ _ _ _ _ _)
  | ((with_reducible refine' c_word ?h1 ?_); (case h1 => omega); intro _ _ _ _))

variable {K : PySem.W.Frag} {C : Cl} {vs : List V} {H : Hp} {Q : VK} {E : XK}
def t_l_number (K : PySem.W.Frag) (C : Cl) : TS := (tSeq (tIfS (tOr (tTest (tOp rEq (tVar 0) (tC (.str "")))) (tOr (tTest (tOp oGt (tCB rLenS (tCons (tVar 0) tNil)) (tC (.int 2)))) (tOr (tTest (tOp rNe (tBM K "str" rStripS (tVar 0) (tCons (tC (.str "0123456789")) tNil)) (tC (.str "")))) (tAnd (tTest (tOp rEq (tOp rIxS (tVar 0) (tC (.int 0))) (tC (.str "0")))) (tTest (tOp rNe (tVar 0) (tC (.str "0")))))))) (tRet (tC (.bl false))) tNext) (tRet (tChain oLe oLe (tVar 1) (tCB rIntS (tCons (tVar 0) tNil)) (tVar 2))))
abbrev n_l_number : List Str := ["_law_text_here", "_law_low", "_law_high"]
def t_l_writes_b1 (K : PySem.W.Frag) (C : Cl) : TS := (tSeq (tAsg (tBM K "str" rPartS (tVar 1) (tCons (tC (.str " ")) tNil)) (gTup K 3 (gCons (gName 2) (gCons (gName 3) (gCons (gName 4) gNil))))) (tSeq (tAsg (tOp (rIn K false) (tVar 1) (tTup (tCons (tC (.str "turn")) (tCons (tC (.str "under")) tNil)))) (gName 5)) (tSeq (tIfS (tAnd (tTest (tOp rEq (tVar 2) (tC (.str "cut")))) (tTest (tOp rEq (tVar 3) (tC (.str " "))))) (tAsg (tCall (sp_l_number K C) [] C8.E0 (tCons (tVar 4) (tCons (tC (.int 0)) (tCons (tC (.int 60)) tNil)))) (gName 5)) tNext) (tSeq (tIfS (tAnd (tTest (tOp rEq (tVar 2) (tC (.str "deal")))) (tTest (tOp rEq (tVar 3) (tC (.str " "))))) (tAsg (tCall (sp_l_number K C) [] C8.E0 (tCons (tVar 4) (tCons (tC (.int 1)) (tCons (tC (.int 60)) tNil)))) (gName 5)) tNext) (tSeq (tIfS (tAnd (tTest (tOp rEq (tVar 2) (tC (.str "weave")))) (tTest (tOp rEq (tVar 3) (tC (.str " "))))) (tAsg (tOp (rIn K false) (tVar 4) (tTup (tCons (tC (.str "0")) (tCons (tC (.str "1")) tNil)))) (gName 5)) tNext) (tSeq (tIfS (tAnd (tTest (tOp rEq (tVar 2) (tC (.str "riffle")))) (tTest (tOp rEq (tVar 3) (tC (.str " "))))) (tAsg (tAndV (tChain oLe oLe (tC (.int 1)) (tCB rLenS (tCons (tVar 4) tNil)) (tC (.int 60))) (tOp rEq (tBM K "str" rStripS (tVar 4) (tCons (tC (.str "ab")) tNil)) (tC (.str "")))) (gName 5)) tNext) (tIfS (tNot (tB (tVar 5))) (tRet (tC (.bl false))) tNext)))))))
def t_l_writes (K : PySem.W.Frag) (C : Cl) : TS := (tSeq (tIfS (tTest (tOp rEq (tVar 0) (tC (.str "")))) (tRet (tC (.bl true))) tNext) (tSeq (tFor (iList K (tBM K "str" rSplitS (tVar 0) (tCons (tC (.str "; ")) tNil))) (gName 1) (t_l_writes_b1 K C)) (tRet (tC (.bl true)))))
abbrev n_l_writes : List Str := ["_law_text_here", "_law_one", "_law_word_here", "_law_blank", "_law_rest", "_law_right"]
theorem rd_l_number (h : sp_l_number K C vs H Q E) : t_l_number K C { nx := fun _ H' => Q .non H', rt := Q } (start n_l_number vs) H := by
  obtain ⟨r, lo, hi, rfl, hr, hh⟩ := h
  show t_l_number K C _ [some (.str r), some (vN lo), some (vN hi)] H
  unfold t_l_number
  have bad : ∀ {nx : L2.St → Hp → Prop} {bk ct : L2.St → Hp → Prop}, ¬ DigOk r → tRet (tC (.bl false)) ⟨nx, Q, bk, ct⟩ [some (.str r), some (vN lo), some (vN hi)] H := fun {nx bk ct} hn => by
    rcases hh with ⟨n, hd, _⟩ | ⟨_, kk⟩
    · exact absurd hd hn
    · exact c_ret (c_c (kk _ (Same.refl _)))
  refine c_seq (c_ifS (c_or (c_tTest (c_op (c_var rfl (c_c (c_eqS (c_kB ?_))))))))
  refine if_d (fun h1 => ?_) (fun h1 => ?_)
  · refine if_t rfl (bad fun z => ?_)
    have h2 := z.1.1
    rw [h1] at h2
    exact absurd h2 (by decide +kernel)
  · refine c_or (c_tTest (c_op (c_CB (c_cons (c_var rfl (c_nil (c_lenS (by omega) (c_c (c_i0 (c_kB ?_))))))))))
    refine if_d (fun h2 => ?_) (fun h2 => ?_)
    · exact if_t rfl (bad fun z => by have := z.1.2; omega)
    · refine c_or (c_tTest (c_op (c_bm (c_var rfl (c_kBMs (c_cons (c_c (c_nil (c_stripS (by omega) (c_c (c_neS (c_kB ?_))))))))))))
      refine if_n (fun h3 => ?_) (fun h3 => ?_)
      · exact if_t rfl (bad fun z => h3 z.2.1)
      · obtain ⟨c, hc⟩ : ∃ c, r.cps.toList.head? = some c := by
          have e0 : r.length = r.cps.toList.length := by simp [Str.length]
          cases e : r.cps.toList with
          | nil =>
            refine absurd ?_ h1
            have : r = ⟨(TL.tl r).toArray⟩ := str_mk r
            rw [this]
            show (⟨r.cps.toList.toArray⟩ : Str) = ""
            rw [e]
            rfl
          | cons a l => exact ⟨a, rfl⟩
        refine c_and (c_tTest (c_op (c_op (c_var rfl (c_c (c_ixS (by omega) (ix_zero hc) (c_c (c_eqS (c_kB ?_)))))))))
        rw [one_is]
        have hlen : 1 ≤ r.length := by
          have e0 : r.length = r.cps.toList.length := by simp [Str.length]
          cases e : r.cps.toList with
          | nil => rw [e] at hc; cases hc
          | cons a l => rw [e0, e]; simp
        have fin : DigOk r → tRet (tChain oLe oLe (tVar 1) (tCB rIntS (tCons (tVar 0) tNil)) (tVar 2)) { nx := fun _ H' => Q .non H', rt := Q } [some (.str r), some (vN lo), some (vN hi)] H := fun hd => by
          rcases hh with ⟨n, _, hi', kk⟩ | ⟨hn, kk⟩
          · refine c_ret (c_chain (c_var rfl (c_CB (c_cons (c_var rfl (c_nil (c_intS hi' (by omega) (c_i0 (c_chLe ⟨_, rfl, rfl, rfl⟩ ?_ (fun R R' hh ⟨v, e, q⟩ => ⟨v, e, hh _ _ q⟩))))))))))
            have e : decide ((lo : Int) ≤ (n : Int) ∧ (n : Int) ≤ (hi : Int)) = decide (lo ≤ n ∧ n ≤ hi) := decide_eq_decide.mpr (by omega)
            rw [e]
            exact kk _ (Same.refl _)
          · exact absurd hd hn
        have hd0 : ¬ (r.cps.toList.head? = some 48 ∧ r ≠ "0") → DigOk r := fun z => ⟨⟨hlen, by omega⟩, h3, z⟩
        refine if_d (fun h4 => ?_) (fun h4 => ?_)
        · subst h4
          refine c_tTest (c_op (c_var rfl (c_c (c_neS (c_kB ?_)))))
          refine if_n (fun h5 => ?_) (fun h5 => ?_)
          · exact bad fun z => z.2.2 ⟨hc, h5⟩
          · exact c_next (fin (hd0 fun z => z.2 h5))
        · exact if_f rfl (c_next (fin (hd0 fun z => h4 (by rw [hc] at z; exact Option.some.inj z.1))))
/-! ### what writes -/
theorem good_part {u : Str} (h : Good u) : ∃ m : Mv, m.Ok ∧ Txt.partition u blnk = tri m ∧ mvText m = u := by
  obtain ⟨m, hm, rfl⟩ := h
  exact ⟨m, hm, part_text m, rfl⟩
theorem in2S {p a b : Str} : inV (.str p) [.str a, .str b] = decide (a = p ∨ b = p) := by
  show (eqV (.str a) (.str p) || (eqV (.str b) (.str p) || false)) = _
  rw [Bool.or_false]
  have e : ∀ x : Str, eqV (.str x) (.str p) = decide (x = p) := fun x => by
    show (x == p) = _
    by_cases h : x = p
    · rw [decide_eq_true h]; exact beq_iff_eq.mpr h
    · rw [decide_eq_false h]; exact beq_eq_false_iff_ne.mpr h
  rw [e, e]
  by_cases h1 : a = p <;> by_cases h2 : b = p <;> simp [h1, h2]
section
variable {nx bk ct : L2.St → Hp → Prop} {rt : VK} {u p a b r : Str} {q q' : Bool} {ts : TS}
abbrev cnd (s : Str) : TT := tAnd (tTest (tOp rEq (tVar 2) (tC (.str s)))) (tTest (tOp rEq (tVar 3) (tC (.str " "))))
abbrev wT (u p a b r : Str) (q : Bool) : L2.St := [some (.str u), some (.str p), some (.str a), some (.str b), some (.str r), some (.bl q)]
theorem cnd_no {s : Str} (h : ¬ (a = s ∧ b = Str.ofString " ")) (k : nx (wT u p a b r q) H) : tIfS (cnd s) ts tNext ⟨nx, rt, bk, ct⟩ (wT u p a b r q) H :=
  c_ifS (c_and (c_tTest (c_op (c_var rfl (c_c (c_eqS (c_kB (if_d (fun h1 => c_tTest (c_op (c_var rfl (c_c (c_eqS (c_kB (if_f (decide_eq_false fun e => h ⟨h1, e⟩) (c_next k)))))))) (fun h1 => if_f rfl (c_next k))))))))))
theorem cnd_yes {s : Str} (h1 : a = s) (h2 : b = Str.ofString " ") (k : ts ⟨nx, rt, bk, ct⟩ (wT u p a b r q) H) : tIfS (cnd s) ts tNext ⟨nx, rt, bk, ct⟩ (wT u p a b r q) H :=
  c_ifS (c_and (c_tTest (c_op (c_var rfl (c_c (c_eqS (c_kB (if_t (decide_eq_true h1) (c_tTest (c_op (c_var rfl (c_c (c_eqS (c_kB (if_t (decide_eq_true h2) k)))))))))))))))
theorem asg_num (hr : r.length ≤ 100000) (lo hi : Nat) (hq : (∃ n : Nat, DigOk r ∧ PySem.intText? r = some (n : Int) ∧ decide (lo ≤ n ∧ n ≤ hi) = q') ∨ (¬ DigOk r ∧ q' = false)) (k : ∀ H', Same H H' → nx (wT u p a b r q') H') :
    tAsg (tCall (sp_l_number K C) [] C8.E0 (tCons (tVar 4) (tCons (tC (vN lo)) (tCons (tC (vN hi)) tNil)))) (gName 5) ⟨nx, rt, bk, ct⟩ (wT u p a b r q) H := by
  refine c_asg (c_call (c_cons (c_var rfl (c_cons (c_c (c_cons (c_c (c_nil ⟨r, lo, hi, rfl, hr, ?_⟩))))))))
  rcases hq with ⟨n, h1, h2, rfl⟩ | ⟨h1, rfl⟩
  · exact .inl ⟨n, h1, h2, fun H' s => c_gn5 (k H' s)⟩
  · exact .inr ⟨h1, fun H' s => c_gn5 (k H' s)⟩
theorem asg_in (hq : decide (Str.ofString "0" = r ∨ Str.ofString "1" = r) = q') (k : ∀ H', Same H H' → nx (wT u p a b r q') H') :
    tAsg (tOp (rIn K false) (tVar 4) (tTup (tCons (tC (.str "0")) (tCons (tC (.str "1")) tNil)))) (gName 5) ⟨nx, rt, bk, ct⟩ (wT u p a b r q) H :=
  c_asg (c_op (c_var rfl (c_tup (c_cons (c_c (c_cons (c_c (c_nil (c_kTup (by simp) fun t H2 ht s2 ht2 => c_inT (st_of ht2) rfl rfl (in2S.trans hq) (c_gn5 (k H2 s2)))))))))))
theorem asg_word (hr : r.length ≤ 100000) (hq : (WordOk r ∧ q' = true) ∨ (¬ WordOk r ∧ q' = false)) (k : ∀ H', Same H H' → nx (wT u p a b r q') H') :
    tAsg (tAndV (tChain oLe oLe (tC (.int 1)) (tCB rLenS (tCons (tVar 4) tNil)) (tC (.int 60))) (tOp rEq (tBM K "str" rStripS (tVar 4) (tCons (tC (.str "ab")) tNil)) (tC (.str "")))) (gName 5) ⟨nx, rt, bk, ct⟩ (wT u p a b r q) H := by
  refine c_asg (c_andV (c_chain (c_c (c_CB (c_cons (c_var rfl (c_nil (c_lenS (by omega) (c_i0 (c_kCh (fun g1 => ?_) (fun g0 => ?_)))))))))))
  · have g1 := of_decide_eq_true g1
    refine c_c (c_i0 (c_kB ?_))
    refine if_d (fun h1 => ?_) (fun h1 => ?_)
    · refine c_op (c_bm (c_var rfl (c_kBMs (c_cons (c_c (c_nil (c_stripS (by omega) (c_c (c_eqS (c_gn5 ?_))))))))))
      have e : decide (Txt.stripChars r (Str.ofString "ab") = Str.ofString "") = q' := by
        rcases hq with ⟨hw, rfl⟩ | ⟨hw, rfl⟩
        · exact decide_eq_true hw.2
        · exact decide_eq_false fun z => hw ⟨⟨by omega, by omega⟩, z⟩
      rw [e]
      exact k H (Same.refl _)
    · rcases hq with ⟨hw, rfl⟩ | ⟨hw, rfl⟩
      · have := hw.1.2; omega
      · exact c_gn5 (k H (Same.refl _))
  · have g0 := of_decide_eq_false g0
    rcases hq with ⟨hw, rfl⟩ | ⟨hw, rfl⟩
    · have := hw.1.1; omega
    · exact ⟨false, rfl, if_f rfl (c_gn5 (k H (Same.refl _)))⟩
theorem fin_w (kt : q = true → nx (wT u p a b r q) H) (kf : q = false → rt (.bl false) H) : tIfS (tNot (tB (tVar 5))) (tRet (tC (.bl false))) tNext ⟨nx, rt, bk, ct⟩ (wT u p a b r q) H := by
  refine c_ifS (c_not (c_tB (c_var rfl (c_kB ?_))))
  cases q with
  | true => exact if_f rfl (c_next (kt rfl))
  | false => exact if_t rfl (c_ret (c_c (kf rfl)))
theorem blnk_is : blnk = Str.ofString " " := rfl
theorem emp_ne : Str.empty ≠ Str.ofString " " := by decide +kernel
theorem turn_w {x2 x3 x4 x5 : Option V} (hp : p.length ≤ 100000) (kg : Good p → ∀ x2 x3 x4 x5 H', Same H H' → nx [some (.str u), some (.str p), x2, x3, x4, x5] H') (kb : ¬ Good p → ∀ H', Same H H' → rt (.bl false) H') :
    t_l_writes_b1 K C ⟨nx, rt, bk, ct⟩ [some (.str u), some (.str p), x2, x3, x4, x5] H := by
  unfold t_l_writes_b1
  refine c_seq (c_asg (c_bm (c_var rfl (c_kBMs (c_cons (c_c (c_nil (c_partS (by omega) fun t H1 ht s1 ht1 => ?_))))))))
  have go : ∀ {a b r : Str}, Txt.partition p blnk = (a, b, r) → H1 t = some (.tup [.str a, .str b, .str r]) := fun e => by
    rw [e] at ht1
    exact ht1
  by_cases hg : Good p
  · obtain ⟨m, hm, e1, e2⟩ := good_part hg
    have kg := kg hg
    have ne : ∀ x y : Str, ∀ z w : Str, z ≠ x → ¬ (z = x ∧ y = w) := fun x y z w h e => h e.1
    cases m with
    | cut n =>
      refine c_gtup (st_of (go e1)) rfl (c_gcons (c_gn2 (c_gcons (c_gn3 (c_gcons (c_gn4 (c_gnil ?_)))))))
      refine c_seq (c_asg (c_op (c_var rfl (c_tup (c_cons (c_c (c_cons (c_c (c_nil (c_kTup (by simp) fun t2 H2 ht2 s2 ht2' => c_inT (st_of ht2') rfl rfl in2S (c_gn5 ?_)))))))))))
      have hd := num_dig (n := n) hm
      have hl : (numS n).length ≤ 100000 := by rw [num_len hm]; exact Nat.le_trans (one_or_two _) (by decide)
      refine c_seq (cnd_yes rfl rfl (asg_num hl 0 60 (.inl ⟨n, hd.1, hd.2, decide_eq_true ⟨Nat.zero_le _, hm⟩⟩) fun H3 s3 => ?_))
      refine c_seq (cnd_no (fun e => absurd e.1 (by decide +kernel)) (c_seq (cnd_no (fun e => absurd e.1 (by decide +kernel)) (c_seq (cnd_no (fun e => absurd e.1 (by decide +kernel)) ?_)))))
      exact fin_w (fun _ => kg _ _ _ _ _ ((s1.trans s2).trans s3)) (fun z => by cases z)
    | turn =>
      refine c_gtup (st_of (go e1)) rfl (c_gcons (c_gn2 (c_gcons (c_gn3 (c_gcons (c_gn4 (c_gnil ?_)))))))
      refine c_seq (c_asg (c_op (c_var rfl (c_tup (c_cons (c_c (c_cons (c_c (c_nil (c_kTup (by simp) fun t2 H2 ht2 s2 ht2' => c_inT (st_of ht2') rfl rfl in2S (c_gn5 ?_)))))))))))
      refine c_seq (cnd_no (fun e => emp_ne e.2) (c_seq (cnd_no (fun e => emp_ne e.2) (c_seq (cnd_no (fun e => emp_ne e.2) (c_seq (cnd_no (fun e => emp_ne e.2) ?_)))))))
      exact fin_w (fun _ => kg _ _ _ _ _ (s1.trans s2)) (fun z => absurd z (by rw [decide_eq_true (.inl e2)]; decide))
    | under =>
      refine c_gtup (st_of (go e1)) rfl (c_gcons (c_gn2 (c_gcons (c_gn3 (c_gcons (c_gn4 (c_gnil ?_)))))))
      refine c_seq (c_asg (c_op (c_var rfl (c_tup (c_cons (c_c (c_cons (c_c (c_nil (c_kTup (by simp) fun t2 H2 ht2 s2 ht2' => c_inT (st_of ht2') rfl rfl in2S (c_gn5 ?_)))))))))))
      refine c_seq (cnd_no (fun e => emp_ne e.2) (c_seq (cnd_no (fun e => emp_ne e.2) (c_seq (cnd_no (fun e => emp_ne e.2) (c_seq (cnd_no (fun e => emp_ne e.2) ?_)))))))
      exact fin_w (fun _ => kg _ _ _ _ _ (s1.trans s2)) (fun z => absurd z (by rw [decide_eq_true (.inr e2)]; decide))
    | deal n =>
      refine c_gtup (st_of (go e1)) rfl (c_gcons (c_gn2 (c_gcons (c_gn3 (c_gcons (c_gn4 (c_gnil ?_)))))))
      refine c_seq (c_asg (c_op (c_var rfl (c_tup (c_cons (c_c (c_cons (c_c (c_nil (c_kTup (by simp) fun t2 H2 ht2 s2 ht2' => c_inT (st_of ht2') rfl rfl in2S (c_gn5 ?_)))))))))))
      have hd := num_dig (n := n) hm.2
      have hl : (numS n).length ≤ 100000 := by rw [num_len hm.2]; exact Nat.le_trans (one_or_two _) (by decide)
      refine c_seq (cnd_no (fun e => absurd e.1 (by decide +kernel)) ?_)
      refine c_seq (cnd_yes rfl rfl (asg_num hl 1 60 (.inl ⟨n, hd.1, hd.2, decide_eq_true hm⟩) fun H3 s3 => ?_))
      refine c_seq (cnd_no (fun e => absurd e.1 (by decide +kernel)) (c_seq (cnd_no (fun e => absurd e.1 (by decide +kernel)) ?_)))
      exact fin_w (fun _ => kg _ _ _ _ _ ((s1.trans s2).trans s3)) (fun z => by cases z)
    | weave n =>
      have hm1 : n ≤ 1 := hm
      refine c_gtup (st_of (go e1)) rfl (c_gcons (c_gn2 (c_gcons (c_gn3 (c_gcons (c_gn4 (c_gnil ?_)))))))
      refine c_seq (c_asg (c_op (c_var rfl (c_tup (c_cons (c_c (c_cons (c_c (c_nil (c_kTup (by simp) fun t2 H2 ht2 s2 ht2' => c_inT (st_of ht2') rfl rfl in2S (c_gn5 ?_)))))))))))
      refine c_seq (cnd_no (fun e => absurd e.1 (by decide +kernel)) (c_seq (cnd_no (fun e => absurd e.1 (by decide +kernel)) ?_)))
      have e01 : Str.ofString "0" = numS n ∨ Str.ofString "1" = numS n := by
        have : n = 0 ∨ n = 1 := by omega
        rcases this with rfl | rfl
        · exact .inl (by decide +kernel)
        · exact .inr (by decide +kernel)
      refine c_seq (cnd_yes rfl rfl (asg_in (q' := true) (decide_eq_true e01) fun H3 s3 => ?_))
      refine c_seq (cnd_no (fun e => absurd e.1 (by decide +kernel)) ?_)
      exact fin_w (fun _ => kg _ _ _ _ _ ((s1.trans s2).trans s3)) (fun z => by cases z)
    | riffle w =>
      have hw := word_ok hm.1 hm.2
      refine c_gtup (st_of (go e1)) rfl (c_gcons (c_gn2 (c_gcons (c_gn3 (c_gcons (c_gn4 (c_gnil ?_)))))))
      refine c_seq (c_asg (c_op (c_var rfl (c_tup (c_cons (c_c (c_cons (c_c (c_nil (c_kTup (by simp) fun t2 H2 ht2 s2 ht2' => c_inT (st_of ht2') rfl rfl in2S (c_gn5 ?_)))))))))))
      refine c_seq (cnd_no (fun e => absurd e.1 (by decide +kernel)) (c_seq (cnd_no (fun e => absurd e.1 (by decide +kernel)) (c_seq (cnd_no (fun e => absurd e.1 (by decide +kernel)) ?_)))))
      have hl : (wS w).length ≤ 100000 := by have := hw.1.2; omega
      refine c_seq (cnd_yes rfl rfl (asg_word hl (q' := true) (.inl ⟨hw, rfl⟩) fun H3 s3 => ?_))
      exact fin_w (fun _ => kg _ _ _ _ _ ((s1.trans s2).trans s3)) (fun z => by cases z)
  · have kb := kb hg
    have nt : decide (Str.ofString "turn" = p ∨ Str.ofString "under" = p) = false := decide_eq_false fun z => by
      rcases z with z | z
      · exact hg (z ▸ good_turn)
      · exact hg (z ▸ good_under)
    rcases part_cases p with ⟨a, r, e, hpt⟩ | hpt
    · have hrl := part_len e hp
      refine c_gtup (st_of (go hpt)) rfl (c_gcons (c_gn2 (c_gcons (c_gn3 (c_gcons (c_gn4 (c_gnil ?_)))))))
      refine c_seq (c_asg (c_op (c_var rfl (c_tup (c_cons (c_c (c_cons (c_c (c_nil (c_kTup (by simp) fun t2 H2 ht2 s2 ht2' => c_inT (st_of ht2') rfl rfl (in2S.trans nt) (c_gn5 ?_)))))))))))
      have s02 := s1.trans s2
      by_cases h1 : a = Str.ofString "cut"
      · subst h1
        refine c_seq (cnd_yes rfl rfl (asg_num (q' := false) hrl 0 60 ?_ fun H3 s3 => ?_))
        · by_cases hd : DigOk r
          · obtain ⟨n, hn, hi, hs⟩ := dig_num hd
            exact .inl ⟨n, hd, hi, decide_eq_false fun z => hg (by rw [e]; exact good_cut hs z.2)⟩
          · exact .inr ⟨hd, rfl⟩
        · refine c_seq (cnd_no (fun e => absurd e.1 (by decide +kernel)) (c_seq (cnd_no (fun e => absurd e.1 (by decide +kernel)) (c_seq (cnd_no (fun e => absurd e.1 (by decide +kernel)) ?_)))))
          exact fin_w (fun z => by cases z) (fun _ => kb _ (s02.trans s3))
      refine c_seq (cnd_no (fun e => h1 e.1) ?_)
      by_cases h2 : a = Str.ofString "deal"
      · subst h2
        refine c_seq (cnd_yes rfl rfl (asg_num (q' := false) hrl 1 60 ?_ fun H3 s3 => ?_))
        · by_cases hd : DigOk r
          · obtain ⟨n, hn, hi, hs⟩ := dig_num hd
            exact .inl ⟨n, hd, hi, decide_eq_false fun z => hg (by rw [e]; exact good_deal hs z.1 z.2)⟩
          · exact .inr ⟨hd, rfl⟩
        · refine c_seq (cnd_no (fun e => absurd e.1 (by decide +kernel)) (c_seq (cnd_no (fun e => absurd e.1 (by decide +kernel)) ?_)))
          exact fin_w (fun z => by cases z) (fun _ => kb _ (s02.trans s3))
      refine c_seq (cnd_no (fun e => h2 e.1) ?_)
      by_cases h3 : a = Str.ofString "weave"
      · subst h3
        refine c_seq (cnd_yes rfl rfl (asg_in (q' := false) (decide_eq_false fun z => hg ?_) fun H3 s3 => ?_))
        · rw [e]
          rcases z with z | z
          · exact good_weave (n := 0) (z.symm.trans (by decide +kernel)) (by decide)
          · exact good_weave (n := 1) (z.symm.trans (by decide +kernel)) (by decide)
        · refine c_seq (cnd_no (fun e => absurd e.1 (by decide +kernel)) ?_)
          exact fin_w (fun z => by cases z) (fun _ => kb _ (s02.trans s3))
      refine c_seq (cnd_no (fun e => h3 e.1) ?_)
      by_cases h4 : a = Str.ofString "riffle"
      · subst h4
        refine c_seq (cnd_yes rfl rfl (asg_word hrl (q' := false) (.inr ⟨fun hw => hg (by rw [e]; exact good_riffle hw), rfl⟩) fun H3 s3 => ?_))
        exact fin_w (fun z => by cases z) (fun _ => kb _ (s02.trans s3))
      refine c_seq (cnd_no (fun e => h4 e.1) ?_)
      exact fin_w (fun z => by cases z) (fun _ => kb _ s02)
    · refine c_gtup (st_of (go hpt)) rfl (c_gcons (c_gn2 (c_gcons (c_gn3 (c_gcons (c_gn4 (c_gnil ?_)))))))
      refine c_seq (c_asg (c_op (c_var rfl (c_tup (c_cons (c_c (c_cons (c_c (c_nil (c_kTup (by simp) fun t2 H2 ht2 s2 ht2' => c_inT (st_of ht2') rfl rfl (in2S.trans nt) (c_gn5 ?_)))))))))))
      refine c_seq (cnd_no (fun e => emp_ne e.2) (c_seq (cnd_no (fun e => emp_ne e.2) (c_seq (cnd_no (fun e => emp_ne e.2) (c_seq (cnd_no (fun e => emp_ne e.2) ?_)))))))
      exact fin_w (fun z => by cases z) (fun _ => kb _ (s1.trans s2))
end
theorem rd_l_writes (h : sp_l_writes K C vs H Q E) : t_l_writes K C { nx := fun _ H' => Q .non H', rt := Q } (start n_l_writes vs) H := by
  obtain ⟨u, rfl, hu, hh⟩ := h
  show t_l_writes K C _ [some (.str u), none, none, none, none, none] H
  unfold t_l_writes
  refine c_seq (c_ifS (c_tTest (c_op (c_var rfl (c_c (c_eqS (c_kB ?_)))))))
  refine if_d (fun h1 => ?_) (fun h1 => ?_)
  · rcases hh with ⟨_, kk⟩ | ⟨hn, _⟩
    · exact c_ret (c_c (kk _ (Same.refl _)))
    · exact absurd (.inl h1) hn
  · refine c_next (c_seq (c_forL (c_bm (c_var rfl (c_kBMs (c_cons (c_c (c_nil (c_splitS (by decide +kernel) (by omega) fun l H1 hl s1 hl1 => ?_)))))))))
    have hl1 : H1 l = some (.lst ((Txt.split u semi).map V.str)) := hl1
    refine l_forM (f := V.str) (sl_of hl1) (fun pre σ' H' => ∃ x1 x2 x3 x4 x5, σ' = [some (.str u), x1, x2, x3, x4, x5] ∧ Same H1 H' ∧ ∀ p ∈ pre, Good p) ⟨_, _, _, _, _, rfl, Same.refl _, fun _ h => absurd h List.not_mem_nil⟩ ?_ ?_ ?_
    · rintro pre post _ H' e ⟨x1, x2, x3, x4, x5, rfl, s2, hg⟩
      exact sl_same s2 (sl_of hl1)
    · rintro pre p post _ H' e ⟨x1, x2, x3, x4, x5, rfl, s2, hg⟩
      have hin : p ∈ Txt.split u semi := by
        rw [e]
        exact List.mem_append_right _ (List.mem_cons_self ..)
      have hpl : p.length ≤ 100000 := by
        have := split_one hin
        omega
      refine c_gn1 (turn_w hpl (fun hgp x2 x3 x4 x5 H3 s3 => ⟨_, _, _, _, _, rfl, s2.trans s3, fun y hy => ?_⟩) (fun hbp H3 s3 => ?_))
      · rcases List.mem_append.mp hy with hy | hy
        · exact hg y hy
        · rw [List.mem_singleton] at hy
          subst hy
          exact hgp
      · rcases hh with ⟨hw, _⟩ | ⟨_, kk⟩
        · rcases hw with hw | hw
          · exact absurd hw h1
          · exact absurd (hw p hin) hbp
        · exact kk _ ((s1.trans s2).trans s3)
    · rintro _ H' ⟨x1, x2, x3, x4, x5, rfl, s2, hg⟩
      rcases hh with ⟨_, kk⟩ | ⟨hn, _⟩
      · exact c_ret (c_c (kk _ (s1.trans s2)))
      · exact absurd (.inr hg) hn
end Rf

set_option Elab.async false
set_option linter.all false
set_option maxRecDepth 100000
set_option maxHeartbeats 4000000
namespace Rf
open PySem PySem.Spec L2 Rm
local macro_rules | `(tactic| walk_at "ne") => `(tactic| first | assumption | (apply Ne.symm; assumption) | exact ne_new (by walk_at "hp") (by assumption) | exact ne_old (by walk_at "hp") (by assumption))
local macro_rules | `(tactic| walk_at "hp") => `(tactic| first | assumption | exact get_same (by assumption) (by walk_at "hp") | exact get_but (by assumption) (by walk_at "ne") (by walk_at "hp"))
local macro_rules | `(tactic| walk_at "sl") => `(tactic| first | assumption | exact sl_of (by assumption) | exact sl_same (by assumption) (by walk_at "sl") | exact sl_but (by assumption) (by walk_at "ne") (by walk_at "sl"))
local macro_rules | `(tactic| walk_at "st") => `(tactic| first | assumption | exact st_of (by assumption) | exact st_same (by assumption) (by walk_at "st") | exact st_but (by assumption) (by walk_at "ne") (by walk_at "st"))
local macro_rules | `(tactic| walk_at "sm") => `(tactic| first | assumption | exact Same.refl _ | exact same_tr (by assumption) (by walk_at "sm") | exact same_bt (by assumption) (by walk_at "fr") (by walk_at "sm"))
local macro_rules | `(tactic| walk_at "fr") => `(tactic| first | assumption | exact none_of_same (by assumption) (by walk_at "sm"))
local macro_rules | `(tactic| walk_at "dec") => `(tactic| first | rfl | assumption | omega | (simp only [decide_eq_true_eq, decide_eq_false_iff_not, Bool.not_eq_true', Bool.not_eq_false', Bool.not_true, Bool.not_false, Bool.and_eq_true, Bool.or_eq_true, Bool.and_eq_false_iff, Bool.or_eq_false_iff, Bool.not_eq_true, Bool.not_eq_false] <;> first | omega | assumption | rfl | (constructor <;> omega)))
local macro_rules | `(tactic| walk_at "len") => `(tactic| first | decide | omega | (simp only [List.length_append, List.length_cons, List.length_nil, List.length_map, List.length_range, List.length_reverse, List.length_set, List.length_take, List.length_drop] <;> omega) | (simp <;> omega))
local macro_rules | `(tactic| walk_at "s") => `(tactic| first
  | (with_reducible refine c_seq ?_)
  | (with_reducible refine c_asg ?_)
  | (with_reducible refine c_op ?_)
  | ((with_reducible refine' c_var ?hv ?_); (case hv => exact rfl))
  | (with_reducible refine c_c ?_)
  | (with_reducible refine c_cons ?_)
  | (with_reducible refine c_nil ?_)
  | (with_reducible refine c_and1 ?_)
  | (with_reducible refine c_shr1 ?_)
  | (with_reducible refine c_i0 ?_)
  | ((with_reducible refine' c_mul ?hv ?_); (case hv => omega))
  | ((with_reducible refine' c_div ?hv ?_); (case hv => omega))
  | ((with_reducible refine' c_mod ?hv ?_); (case hv => omega))
  | (with_reducible refine c_un ?_)
  | (with_reducible refine c_iU ?_)
  | (with_reducible refine c_call ?_)
  | (with_reducible refine c_tTest ?_)
  | (with_reducible refine c_tB ?_)
  | (with_reducible refine c_kB ?_)
  | (with_reducible refine c_ifS ?_)
  | (with_reducible refine c_gn0 ?_)
  | (with_reducible refine c_gn1 ?_)
  | (with_reducible refine c_gn2 ?_)
  | (with_reducible refine c_gn3 ?_)
  | (with_reducible refine c_gn4 ?_)
  | (with_reducible refine c_gn5 ?_)
  | (with_reducible refine c_gn6 ?_)
  | (with_reducible refine c_gn7 ?_)
  | (with_reducible refine c_gn8 ?_)
  | (with_reducible refine c_gnS ?_)
  | (with_reducible refine c_eqI ?_)
  | (with_reducible refine c_neI ?_)
  | (with_reducible refine c_eqS ?_)
  | (with_reducible refine c_neS ?_)
  | (with_reducible refine c_eqB ?_)
  | (with_reducible refine c_neB ?_)
  | (with_reducible refine c_and ?_)
  | (with_reducible refine c_or ?_)
  | (with_reducible refine c_not ?_)
  | (with_reducible refine c_andV ?_)
  | (with_reducible refine c_orV ?_)
  | (with_reducible refine c_notV ?_)
  | (with_reducible refine c_ifE ?_)
  | (with_reducible refine c_tYes ?_)
  | (with_reducible refine c_chain ?_)
  | ((with_reducible refine' c_chLe ?hv ?_ ?hm); (case hv => exact ⟨rfl, rfl⟩); (case hm => exact fun R R' hh q => hh _ _ q))
  | ((with_reducible refine' c_chLe ?hv ?_ ?hm); (case hv => exact ⟨_, rfl, rfl, rfl⟩); (case hm => exact fun R R' hh ⟨v, e, q⟩ => ⟨v, e, hh _ _ q⟩))
  | (with_reducible refine c_tup ?_)
  | (with_reducible refine c_lst ?_)
  | ((with_reducible refine' c_kTup ?hv ?_); (case hv => walk_at "len"); intro _ _ _ _ _)
  | ((with_reducible refine' c_kLst ?hv ?_); (case hv => walk_at "len"); intro _ _ _ _ _)
  | ((with_reducible refine' c_ixL ?hv ?ha ?_); (case hv => walk_at "sl"); (case ha => walk_at "at"))
  | ((with_reducible refine' c_ixT ?hv ?ha ?_); (case hv => walk_at "st"); (case ha => walk_at "at"))
  | ((with_reducible refine' c_cat ?hv ?ha ?hz ?_); (case hv => walk_at "hp"); (case ha => walk_at "hp"); (case hz => walk_at "len"); intro _ _ _ _ _)
  | ((with_reducible refine' c_addS ?hv ?_); (case hv => walk_at "len"))
  | (with_reducible refine c_sl ?_)
  | (with_reducible refine c_noP ?_)
  | (with_reducible refine c_part ?_)
  | (with_reducible refine c_kPart ?_)
  | ((with_reducible refine' c_slL ?hv ?_); (case hv => walk_at "sl"); intro _ _ _ _ _)
  | ((with_reducible refine' c_slX ?hv ?_); (case hv => walk_at "len"))
  | (with_reducible refine c_rev ?_)
  | ((with_reducible refine' c_kRev ?hv ?_); (case hv => walk_at "sl"); intro _ _ _ _ _)
  | (with_reducible refine c_CB ?_)
  | ((with_reducible refine' c_lenM ?hv ?_); (case hv => walk_at "sl"))
  | ((with_reducible refine' c_lenL ?hv ?_); (case hv => walk_at "sl"))
  | ((with_reducible refine' c_lenS ?hv ?_); (case hv => walk_at "len"))
  | ((with_reducible refine' c_listOf ?hv ?_); (case hv => walk_at "sl"); intro _ _ _ _ _)
  | (with_reducible refine c_min2 ?_)
  | (with_reducible refine c_listRg ?_)
  | (with_reducible refine c_rg1 ?_)
  | (with_reducible refine c_kRg1 ?_)
  | (with_reducible refine c_rg2 ?_)
  | (with_reducible refine c_kRg2 ?_)
  | ((with_reducible refine' c_kRgN ?hv ?_); (case hv => omega); intro _ _ _ _ _)
  | ((with_reducible refine' c_kRgN2 ?hv ?ha ?_); (case hv => omega); (case ha => omega); intro _ _ _ _ _)
  | ((with_reducible refine' c_kRg ?hv ?ha ?_); (case hv => omega); (case ha => omega); intro _ _ _ _ _)
  | (with_reducible refine c_lenSet ?_)
  | (with_reducible refine c_meth ?_)
  | (with_reducible refine c_methA ?_)
  | (with_reducible refine c_make ?_)
  | ((with_reducible refine c_makeO ?_); intro _ _ _ _ _ _)
  | (with_reducible refine c_fld ?_)
  | (with_reducible refine c_bm ?_)
  | (with_reducible refine c_bm0 ?_)
  | ((with_reducible refine' c_kBMl ?hv ?_); (case hv => walk_at "sl"))
  | ((with_reducible refine' c_kBM0l ?hv ?_); (case hv => walk_at "sl"))
  | (with_reducible refine c_kBMs ?_)
  | (with_reducible refine c_kBM0s ?_)
  | ((with_reducible refine' c_append ?hv ?hz ?_); (case hv => walk_at "hp"); (case hz => walk_at "len"); intro _ _ _)
  | ((with_reducible refine' c_extend ?hv ?ha ?hz ?_); (case hv => walk_at "hp"); (case ha => walk_at "hp"); (case hz => walk_at "len"); intro _ _ _)
  | ((with_reducible refine' c_reverse ?hv ?_); (case hv => walk_at "hp"); intro _ _ _)
  | ((with_reducible refine' c_clear ?hv ?_); (case hv => walk_at "hp"); intro _ _ _)
  | ((with_reducible refine' c_gtup ?hv ?ha ?_); (case hv => walk_at "st"); (case ha => exact rfl))
  | (with_reducible refine c_gnil ?_)
  | (with_reducible refine c_gcons ?_)
  | (with_reducible refine c_gsub ?_)
  | (with_reducible refine c_next ?_)
  | (with_reducible refine c_par ?_)
  | (with_reducible refine c_kPar ?_)
  | ((with_reducible refine' c_aug ?hv ?_); (case hv => exact rfl))
  | (with_reducible refine c_ipI ?_)
  | (with_reducible refine c_drop ?_)
  | (with_reducible refine c_ret ?_)
  | (with_reducible refine c_retN ?_)
  | (with_reducible refine c_sfld ?_)
  | (with_reducible refine c_forL ?_)
  | (with_reducible refine c_for1 ?_)
  | (with_reducible refine c_for2 ?_)
  | (with_reducible refine c_forS ?_)
  | (with_reducible refine c_forRev ?_)
  | (with_reducible refine c_lcL ?_)
  | (with_reducible refine c_lc1 ?_)
  | (refine if_f (by walk_at "dec") ?_)
  | (refine if_t (by walk_at "dec") ?_)
  | walk_at "own")
local macro_rules | `(tactic| walk_at "go") => `(tactic| repeat walk_at "s")

local macro_rules | `(tactic| walk_at "kit") => `(tactic| first | exact kit_int_int | exact kit_int_bool | exact kit_int_str | exact kit_int_list | exact kit_list_list | exact kit_list_int | exact kit_list_bool | exact kit_str_str | exact kit_str_int | exact kit_str_list | exact kit_bool_bool | exact kit_bool_int | exact kit_bool_list)
local macro_rules | `(tactic| walk_at "own") => `(tactic| first
  | ((with_reducible refine' c_isiI ?h3 ?_); (case h3 => walk_at "kit"))
  | ((with_reducible refine' c_isiL ?h1 ?h3 ?_); (case h1 => walk_at "sl"); (case h3 => walk_at "kit"))
  | ((with_reducible refine' c_isiS ?h3 ?_); (case h3 => walk_at "kit"))
  | ((with_reducible refine' c_isiB ?h3 ?_); (case h3 => walk_at "kit"))
  | (with_reducible refine c_within ?_))
local macro_rules | `(tactic| walk_at "tn") => `(tactic| first | exact tn_nat _ | exact tn_add _ _ | exact tn_sub1 _ (by omega) | exact tn_sub _ _ (by omega) | exact rfl)
local macro_rules | `(tactic| walk_at "at") => `(tactic| first | exact at_DN (by walk_at "tn") (by omega) (by omega) | exact at_DI (by walk_at "tn") (by omega) (by omega) | rfl | assumption | exact at_map (by assumption) (by first | rfl | omega))


local macro_rules | `(tactic| walk_at "own") => `(tactic| first
  | ((with_reducible refine' c_cell_at ?h1 ?h2 ?_); (case h1 => walk_at "sl"); (case h2 => omega))
  | ((with_reducible refine' c_draw ?h1 ?h2 ?_); (case h1 => omega); (case h2 => omega); intro _ _)
  | ((with_reducible refine' c_inN ?h1 ?_); (case h1 => walk_at "sl"))
  | ((with_reducible refine' c_ninN ?h1 ?_); (case h1 => walk_at "sl"))
  | ((with_reducible refine' c_eqLst leaf_nat ?h1 ?h2 ?_); (case h1 => walk_at "sl"); (case h2 => walk_at "sl"))
  | ((with_reducible refine' c_neLst leaf_nat ?h1 ?h2 ?_); (case h1 => walk_at "sl"); (case h2 => walk_at "sl")))

local macro_rules | `(tactic| walk_at "own") => `(tactic| first
  | ((with_reducible refine' c_drawB ?h1 ?h2 ?_); (case h1 => omega); (case h2 => omega); intro _ _ _ _)
  | (with_reducible refine c_dnew ?_; intro _ _ _ _ _)
  | (with_reducible refine c_dget ?_)
  | (with_reducible refine c_dput ?_)
  | (with_reducible refine c_eqSg ?_)
  | (with_reducible refine c_countW ?_)
  | ((with_reducible refine' c_stripW ?h1 ?_); (case h1 => omega))
  | ((with_reducible refine' c_setLN ?h1 ?h2 ?_); (case h1 => walk_at "hp"); (case h2 => walk_at "len"); intro _ _ _))
local macro_rules | `(tactic| walk_at "s") => `(tactic| first
  | ((with_reducible refine' c_slTk ?h1 ?h2 ?_); (case h1 => walk_at "sl"); (case h2 => walk_at "len"); intro _ _ _ _ _)
  | ((with_reducible refine' c_slD1 ?h1 ?h2 ?_); (case h1 => walk_at "sl"); (case h2 => walk_at "len"); intro _ _ _ _ _)
  | ((with_reducible refine' c_slDr ?h1 ?h2 ?_); (case h1 => walk_at "sl"); (case h2 => walk_at "len"); intro _ _ _ _ _))
local macro_rules | `(tactic| walk_at "at") => `(tactic| exact at_D0 (by omega))

local macro_rules | `(tactic| walk_at "own") => `(tactic| first
  | ((with_reducible refine' c_many ?h1 ?_); (case h1 => omega); intro _ _ _ _ _)
  | ((with_reducible refine' c_order ?h1 ?_); (case h1 => omega); intro _ _ _ _ _ _ _)
  | ((with_reducible refine' c_word ?h1 ?_); (case h1 => omega); intro _ _ _ _))

variable {K : PySem.W.Frag} {C : Cl} {vs : List V} {H : Hp} {Q : VK} {E : XK}
def t_l_few (K : PySem.W.Frag) (C : Cl) : TS := (tSeq (tAsg (tLst (tCons (tC (.str "cut")) (tCons (tC (.str "cut ")) (tCons (tC (.str "cut 61")) (tCons (tC (.str "cut 60")) (tCons (tC (.str "cut 01")) (tCons (tC (.str "cut -1")) (tCons (tC (.str "cut  3")) (tCons (tC (.str "cut 3 ")) (tCons (tC (.str " cut 3")) (tCons (tC (.str "cut 3;turn")) (tCons (tC (.str "cut +3")) tNil)))))))))))) (gName 0)) (tSeq (tAsg (tOp rCat (tVar 0) (tLst (tCons (tC (.str "turn;")) (tCons (tC (.str "turn; ")) (tCons (tC (.str "; turn")) (tCons (tC (.str "turn 1")) (tCons (tC (.str "Turn")) (tCons (tC (.str "deal 0")) (tCons (tC (.str "deal 61")) (tCons (tC (.str "weave 2")) (tCons (tC (.str "weave")) (tCons (tC (.str "weave 01")) tNil)))))))))))) (gName 0)) (tSeq (tAsg (tOp rCat (tVar 0) (tLst (tCons (tC (.str "riffle ")) (tCons (tC (.str "riffle abc")) (tCons (tC (.str "riffle AB")) (tCons (tC (.str "riffle a b")) (tCons (tOp rAddS (tC (.str "riffle ")) (tOp rMulS (tC (.str "a")) (tC (.int 61)))) (tCons (tOp rAddS (tC (.str "riffle ")) (tOp rMulS (tC (.str "b")) (tC (.int 60)))) tNil)))))))) (gName 0)) (tRet (tOp rCat (tVar 0) (tLst (tCons (tC (.str "under; under")) (tCons (tC (.str "turn ; turn")) (tCons (tC (.str "cut 1_0")) (tCons (tC (.str "cut\t3")) tNil))))))))))
abbrev n_l_few : List Str := ["_law_some"]
abbrev few1 : List Str := ["cut", "cut ", "cut 61", "cut 60", "cut 01", "cut -1", "cut  3", "cut 3 ", " cut 3", "cut 3;turn", "cut +3"]
abbrev few2 : List Str := ["turn;", "turn; ", "; turn", "turn 1", "Turn", "deal 0", "deal 61", "weave 2", "weave", "weave 01"]
abbrev few3 : List Str := ["riffle ", "riffle abc", "riffle AB", "riffle a b", Str.ofString "riffle " ++ repS "a" 61, Str.ofString "riffle " ++ repS "b" 60]
abbrev few4 : List Str := ["under; under", "turn ; turn", "cut 1_0", "cut\t3"]
theorem few_ok : ∀ u ∈ few1 ++ few2 ++ few3 ++ few4, u.length ≤ 1000 := by decide +kernel
theorem rd_l_few (h : sp_l_few K C vs H Q E) : t_l_few K C { nx := fun _ H' => Q .non H', rt := Q } (start n_l_few vs) H := by
  obtain ⟨rfl, kk⟩ := h
  have kk := kk (few1 ++ few2 ++ few3 ++ few4) (by decide +kernel) few_ok
  show t_l_few K C _ [none] H
  unfold t_l_few
  refine c_seq (c_asg (c_lst (c_cons (c_c (c_cons (c_c (c_cons (c_c (c_cons (c_c (c_cons (c_c (c_cons (c_c (c_cons (c_c (c_cons (c_c (c_cons (c_c (c_cons (c_c (c_cons (c_c (c_nil (c_kLst (by simp) fun p1 H1 hp1 s1 ho1 => c_gn0 ?_))))))))))))))))))))))))))
  have ho1 : H1 p1 = some (.lst (few1.map V.str)) := ho1
  refine c_seq (c_asg (c_op (c_var rfl (c_lst (c_cons (c_c (c_cons (c_c (c_cons (c_c (c_cons (c_c (c_cons (c_c (c_cons (c_c (c_cons (c_c (c_cons (c_c (c_cons (c_c (c_cons (c_c (c_nil (c_kLst (by simp) fun p2 H2 hp2 s2 ho2 => ?_))))))))))))))))))))))))))
  have ho2 : H2 p2 = some (.lst (few2.map V.str)) := ho2
  refine c_cat (s2 _ _ ho1) ho2 (by simp) fun p3 H3 hp3 s3 ho3 => c_gn0 ?_
  refine c_seq (c_asg (c_op (c_var rfl (c_lst (c_cons (c_c (c_cons (c_c (c_cons (c_c (c_cons (c_c (c_cons (c_op (c_c (c_op (c_c (c_c (c_mulS (n := 61) (by decide) (by decide +kernel) (c_addS (by decide +kernel) ?_))))))))))))))))))))
  refine c_cons (c_op (c_c (c_op (c_c (c_c (c_mulS (n := 60) (by decide) (by decide +kernel) (c_addS (by decide +kernel) (c_nil (c_kLst (by simp) fun p4 H4 hp4 s4 ho4 => ?_)))))))))
  have ho4 : H4 p4 = some (.lst (few3.map V.str)) := ho4
  refine c_cat (s4 _ _ ho3) ho4 (by simp) fun p5 H5 hp5 s5 ho5 => c_gn0 ?_
  refine c_ret (c_op (c_var rfl (c_lst (c_cons (c_c (c_cons (c_c (c_cons (c_c (c_cons (c_c (c_nil (c_kLst (by simp) fun p6 H6 hp6 s6 ho6 => ?_)))))))))))))
  have ho6 : H6 p6 = some (.lst (few4.map V.str)) := ho6
  refine c_cat (s6 _ _ ho5) ho6 (by simp) fun p7 H7 hp7 s7 ho7 => ?_
  have s15 := ((((s1.trans s2).trans s3).trans s4).trans s5).trans s6
  refine kk p7 H7 (none_of_same hp7 s15) (s15.trans s7) ?_
  rw [ho7, List.map_append, List.map_append, List.map_append]
end Rf

set_option Elab.async false
set_option linter.all false
set_option maxRecDepth 100000
set_option maxHeartbeats 4000000
namespace Rf
open PySem PySem.Spec L2 Rm
local macro_rules | `(tactic| walk_at "ne") => `(tactic| first | assumption | (apply Ne.symm; assumption) | exact ne_new (by walk_at "hp") (by assumption) | exact ne_old (by walk_at "hp") (by assumption))
local macro_rules | `(tactic| walk_at "hp") => `(tactic| first | assumption | exact get_same (by assumption) (by walk_at "hp") | exact get_but (by assumption) (by walk_at "ne") (by walk_at "hp"))
local macro_rules | `(tactic| walk_at "sl") => `(tactic| first | assumption | exact sl_of (by assumption) | exact sl_same (by assumption) (by walk_at "sl") | exact sl_but (by assumption) (by walk_at "ne") (by walk_at "sl"))
local macro_rules | `(tactic| walk_at "st") => `(tactic| first | assumption | exact st_of (by assumption) | exact st_same (by assumption) (by walk_at "st") | exact st_but (by assumption) (by walk_at "ne") (by walk_at "st"))
local macro_rules | `(tactic| walk_at "sm") => `(tactic| first | assumption | exact Same.refl _ | exact same_tr (by assumption) (by walk_at "sm") | exact same_bt (by assumption) (by walk_at "fr") (by walk_at "sm"))
local macro_rules | `(tactic| walk_at "fr") => `(tactic| first | assumption | exact none_of_same (by assumption) (by walk_at "sm"))
local macro_rules | `(tactic| walk_at "dec") => `(tactic| first | rfl | assumption | omega | (simp only [decide_eq_true_eq, decide_eq_false_iff_not, Bool.not_eq_true', Bool.not_eq_false', Bool.not_true, Bool.not_false, Bool.and_eq_true, Bool.or_eq_true, Bool.and_eq_false_iff, Bool.or_eq_false_iff, Bool.not_eq_true, Bool.not_eq_false] <;> first | omega | assumption | rfl | (constructor <;> omega)))
local macro_rules | `(tactic| walk_at "len") => `(tactic| first | decide | omega | (simp only [List.length_append, List.length_cons, List.length_nil, List.length_map, List.length_range, List.length_reverse, List.length_set, List.length_take, List.length_drop] <;> omega) | (simp <;> omega))
local macro_rules | `(tactic| walk_at "s") => `(tactic| first
  | (with_reducible refine c_seq ?_)
  | (with_reducible refine c_asg ?_)
  | (with_reducible refine c_op ?_)
  | ((with_reducible refine' c_var ?hv ?_); (case hv => exact rfl))
  | (with_reducible refine c_c ?_)
  | (with_reducible refine c_cons ?_)
  | (with_reducible refine c_nil ?_)
  | (with_reducible refine c_and1 ?_)
  | (with_reducible refine c_shr1 ?_)
  | (with_reducible refine c_i0 ?_)
  | ((with_reducible refine' c_mul ?hv ?_); (case hv => omega))
  | ((with_reducible refine' c_div ?hv ?_); (case hv => omega))
  | ((with_reducible refine' c_mod ?hv ?_); (case hv => omega))
  | (with_reducible refine c_un ?_)
  | (with_reducible refine c_iU ?_)
  | (with_reducible refine c_call ?_)
  | (with_reducible refine c_tTest ?_)
  | (with_reducible refine c_tB ?_)
  | (with_reducible refine c_kB ?_)
  | (with_reducible refine c_ifS ?_)
  | (with_reducible refine c_gn0 ?_)
  | (with_reducible refine c_gn1 ?_)
  | (with_reducible refine c_gn2 ?_)
  | (with_reducible refine c_gn3 ?_)
  | (with_reducible refine c_gn4 ?_)
  | (with_reducible refine c_gn5 ?_)
  | (with_reducible refine c_gn6 ?_)
  | (with_reducible refine c_gn7 ?_)
  | (with_reducible refine c_gn8 ?_)
  | (with_reducible refine c_gnS ?_)
  | (with_reducible refine c_eqI ?_)
  | (with_reducible refine c_neI ?_)
  | (with_reducible refine c_eqS ?_)
  | (with_reducible refine c_neS ?_)
  | (with_reducible refine c_eqB ?_)
  | (with_reducible refine c_neB ?_)
  | (with_reducible refine c_and ?_)
  | (with_reducible refine c_or ?_)
  | (with_reducible refine c_not ?_)
  | (with_reducible refine c_andV ?_)
  | (with_reducible refine c_orV ?_)
  | (with_reducible refine c_notV ?_)
  | (with_reducible refine c_ifE ?_)
  | (with_reducible refine c_tYes ?_)
  | (with_reducible refine c_chain ?_)
  | ((with_reducible refine' c_chLe ?hv ?_ ?hm); (case hv => exact ⟨rfl, rfl⟩); (case hm => exact fun R R' hh q => hh _ _ q))
  | ((with_reducible refine' c_chLe ?hv ?_ ?hm); (case hv => exact ⟨_, rfl, rfl, rfl⟩); (case hm => exact fun R R' hh ⟨v, e, q⟩ => ⟨v, e, hh _ _ q⟩))
  | (with_reducible refine c_tup ?_)
  | (with_reducible refine c_lst ?_)
  | ((with_reducible refine' c_kTup ?hv ?_); (case hv => walk_at "len"); intro _ _ _ _ _)
  | ((with_reducible refine' c_kLst ?hv ?_); (case hv => walk_at "len"); intro _ _ _ _ _)
  | ((with_reducible refine' c_ixL ?hv ?ha ?_); (case hv => walk_at "sl"); (case ha => walk_at "at"))
  | ((with_reducible refine' c_ixT ?hv ?ha ?_); (case hv => walk_at "st"); (case ha => walk_at "at"))
  | ((with_reducible refine' c_cat ?hv ?ha ?hz ?_); (case hv => walk_at "hp"); (case ha => walk_at "hp"); (case hz => walk_at "len"); intro _ _ _ _ _)
  | ((with_reducible refine' c_addS ?hv ?_); (case hv => walk_at "len"))
  | (with_reducible refine c_sl ?_)
  | (with_reducible refine c_noP ?_)
  | (with_reducible refine c_part ?_)
  | (with_reducible refine c_kPart ?_)
  | ((with_reducible refine' c_slL ?hv ?_); (case hv => walk_at "sl"); intro _ _ _ _ _)
  | ((with_reducible refine' c_slX ?hv ?_); (case hv => walk_at "len"))
  | (with_reducible refine c_rev ?_)
  | ((with_reducible refine' c_kRev ?hv ?_); (case hv => walk_at "sl"); intro _ _ _ _ _)
  | (with_reducible refine c_CB ?_)
  | ((with_reducible refine' c_lenM ?hv ?_); (case hv => walk_at "sl"))
  | ((with_reducible refine' c_lenL ?hv ?_); (case hv => walk_at "sl"))
  | ((with_reducible refine' c_lenS ?hv ?_); (case hv => walk_at "len"))
  | ((with_reducible refine' c_listOf ?hv ?_); (case hv => walk_at "sl"); intro _ _ _ _ _)
  | (with_reducible refine c_min2 ?_)
  | (with_reducible refine c_listRg ?_)
  | (with_reducible refine c_rg1 ?_)
  | (with_reducible refine c_kRg1 ?_)
  | (with_reducible refine c_rg2 ?_)
  | (with_reducible refine c_kRg2 ?_)
  | ((with_reducible refine' c_kRgN ?hv ?_); (case hv => omega); intro _ _ _ _ _)
  | ((with_reducible refine' c_kRgN2 ?hv ?ha ?_); (case hv => omega); (case ha => omega); intro _ _ _ _ _)
  | ((with_reducible refine' c_kRg ?hv ?ha ?_); (case hv => omega); (case ha => omega); intro _ _ _ _ _)
  | (with_reducible refine c_lenSet ?_)
  | (with_reducible refine c_meth ?_)
  | (with_reducible refine c_methA ?_)
  | (with_reducible refine c_make ?_)
  | ((with_reducible refine c_makeO ?_); intro _ _ _ _ _ _)
  | (with_reducible refine c_fld ?_)
  | (with_reducible refine c_bm ?_)
  | (with_reducible refine c_bm0 ?_)
  | ((with_reducible refine' c_kBMl ?hv ?_); (case hv => walk_at "sl"))
  | ((with_reducible refine' c_kBM0l ?hv ?_); (case hv => walk_at "sl"))
  | (with_reducible refine c_kBMs ?_)
  | (with_reducible refine c_kBM0s ?_)
  | ((with_reducible refine' c_append ?hv ?hz ?_); (case hv => walk_at "hp"); (case hz => walk_at "len"); intro _ _ _)
  | ((with_reducible refine' c_extend ?hv ?ha ?hz ?_); (case hv => walk_at "hp"); (case ha => walk_at "hp"); (case hz => walk_at "len"); intro _ _ _)
  | ((with_reducible refine' c_reverse ?hv ?_); (case hv => walk_at "hp"); intro _ _ _)
  | ((with_reducible refine' c_clear ?hv ?_); (case hv => walk_at "hp"); intro _ _ _)
  | ((with_reducible refine' c_gtup ?hv ?ha ?_); (case hv => walk_at "st"); (case ha => exact rfl))
  | (with_reducible refine c_gnil ?_)
  | (with_reducible refine c_gcons ?_)
  | (with_reducible refine c_gsub ?_)
  | (with_reducible refine c_next ?_)
  | (with_reducible refine c_par ?_)
  | (with_reducible refine c_kPar ?_)
  | ((with_reducible refine' c_aug ?hv ?_); (case hv => exact rfl))
  | (with_reducible refine c_ipI ?_)
  | (with_reducible refine c_drop ?_)
  | (with_reducible refine c_ret ?_)
  | (with_reducible refine c_retN ?_)
  | (with_reducible refine c_sfld ?_)
  | (with_reducible refine c_forL ?_)
  | (with_reducible refine c_for1 ?_)
  | (with_reducible refine c_for2 ?_)
  | (with_reducible refine c_forS ?_)
  | (with_reducible refine c_forRev ?_)
  | (with_reducible refine c_lcL ?_)
  | (with_reducible refine c_lc1 ?_)
  | (refine if_f (by walk_at "dec") ?_)
  | (refine if_t (by walk_at "dec") ?_)
  | walk_at "own")
local macro_rules | `(tactic| walk_at "go") => `(tactic| repeat walk_at "s")

local macro_rules | `(tactic| walk_at "kit") => `(tactic| first | exact kit_int_int | exact kit_int_bool | exact kit_int_str | exact kit_int_list | exact kit_list_list | exact kit_list_int | exact kit_list_bool | exact kit_str_str | exact kit_str_int | exact kit_str_list | exact kit_bool_bool | exact kit_bool_int | exact kit_bool_list)
local macro_rules | `(tactic| walk_at "own") => `(tactic| first
  | ((with_reducible refine' c_isiI ?h3 ?_); (case h3 => walk_at "kit"))
  | ((with_reducible refine' c_isiL ?h1 ?h3 ?_); (case h1 => walk_at "sl"); (case h3 => walk_at "kit"))
  | ((with_reducible refine' c_isiS ?h3 ?_); (case h3 => walk_at "kit"))
  | ((with_reducible refine' c_isiB ?h3 ?_); (case h3 => walk_at "kit"))
  | (with_reducible refine c_within ?_))
local macro_rules | `(tactic| walk_at "tn") => `(tactic| first | exact tn_nat _ | exact tn_add _ _ | exact tn_sub1 _ (by omega) | exact tn_sub _ _ (by omega) | exact rfl)
local macro_rules | `(tactic| walk_at "at") => `(tactic| first | exact at_DN (by walk_at "tn") (by omega) (by omega) | exact at_DI (by walk_at "tn") (by omega) (by omega) | rfl | assumption | exact at_map (by assumption) (by first | rfl | omega))


local macro_rules | `(tactic| walk_at "own") => `(tactic| first
  | ((with_reducible refine' c_cell_at ?h1 ?h2 ?_); (case h1 => walk_at "sl"); (case h2 => omega))
  | ((with_reducible refine' c_draw ?h1 ?h2 ?_); (case h1 => omega); (case h2 => omega); intro _ _)
  | ((with_reducible refine' c_inN ?h1 ?_); (case h1 => walk_at "sl"))
  | ((with_reducible refine' c_ninN ?h1 ?_); (case h1 => walk_at "sl"))
  | ((with_reducible refine' c_eqLst leaf_nat ?h1 ?h2 ?_); (case h1 => walk_at "sl"); (case h2 => walk_at "sl"))
  | ((with_reducible refine' c_neLst leaf_nat ?h1 ?h2 ?_); (case h1 => walk_at "sl"); (case h2 => walk_at "sl")))

local macro_rules | `(tactic| walk_at "own") => `(tactic| first
  | ((with_reducible refine' c_drawB ?h1 ?h2 ?_); (case h1 => omega); (case h2 => omega); intro _ _ _ _)
  | (with_reducible refine c_dnew ?_; intro _ _ _ _ _)
  | (with_reducible refine c_dget ?_)
  | (with_reducible refine c_dput ?_)
  | (with_reducible refine c_eqSg ?_)
  | (with_reducible refine c_countW ?_)
  | ((with_reducible refine' c_stripW ?h1 ?_); (case h1 => omega))
  | ((with_reducible refine' c_setLN ?h1 ?h2 ?_); (case h1 => walk_at "hp"); (case h2 => walk_at "len"); intro _ _ _))
local macro_rules | `(tactic| walk_at "s") => `(tactic| first
  | ((with_reducible refine' c_slTk ?h1 ?h2 ?_); (case h1 => walk_at "sl"); (case h2 => walk_at "len"); intro _ _ _ _ _)
  | ((with_reducible refine' c_slD1 ?h1 ?h2 ?_); (case h1 => walk_at "sl"); (case h2 => walk_at "len"); intro _ _ _ _ _)
  | ((with_reducible refine' c_slDr ?h1 ?h2 ?_); (case h1 => walk_at "sl"); (case h2 => walk_at "len"); intro _ _ _ _ _))
local macro_rules | `(tactic| walk_at "at") => `(tactic| exact at_D0 (by omega))

local macro_rules | `(tactic| walk_at "own") => `(tactic| first
  | ((with_reducible refine' c_many ?h1 ?_); (case h1 => omega); intro _ _ _ _ _)
  | ((with_reducible refine' c_order ?h1 ?_); (case h1 => omega); intro _ _ _ _ _ _ _)
  | ((with_reducible refine' c_word ?h1 ?_); (case h1 => omega); intro _ _ _ _))

variable {K : PySem.W.Frag} {C : Cl} {vs : List V} {H : Hp} {Q : VK} {E : XK}
def t_law_b1 (K : PySem.W.Frag) (C : Cl) : TS := (tDrop (tBM K "list" rAppend (tVar 2) (tCons (tCall (sp_l_told K C) [] C8.E0 (tCons (tOp oAdd (tCall (sp_l_cell_at K C) [] C8.E0 (tCons (tVar 0) (tCons (tOp oAdd (tC (.int 2)) (tVar 3)) tNil))) (tOp oMul (tC (.int 977)) (tVar 3))) (tCons (tVar 1) tNil))) tNil)))
def t_law_b2 (K : PySem.W.Frag) (C : Cl) : TS := (tAsg (tCall (sp_l_moved K C) [] C8.E0 (tCons (tVar 9) (tCons (tVar 5) tNil))) (gName 9))
def t_law_b3 (K : PySem.W.Frag) (C : Cl) : TS := (tIfS (tB (tCall (sp_l_writes K C) [] C8.E0 (tCons (tVar 5) tNil))) (tIfS (tTest (tOp rNe (tCall (sp_p_written K C) [] C8.E0 (tCons (tCall (sp_p_read K C) [] C8.E0 (tCons (tVar 5) tNil)) tNil)) (tVar 5))) (tRet (tC (.bl false))) tNext) (tIfS (tNot (tB (tCall (sp_l_refused K C) [] C8.E0 (tCons (tVar 5) tNil)))) (tRet (tC (.bl false))) tNext))
def t_law_r19 (K : PySem.W.Frag) (C : Cl) : TS := (tSeq (tFor (iList K (tOp rCat (tLst (tCons (tVar 13) tNil)) (tCall (sp_l_few K C) [] C8.E0 tNil))) (gName 5) (t_law_b3 K C)) (tRet (tAndV (tCall (sp_l_refused K C) [] C8.E0 (tCons (tC .non) tNil)) (tAndV (tCall (sp_l_refused K C) [] C8.E0 (tCons (tC (.int 5)) tNil)) (tCall (sp_l_refused K C) [] C8.E0 (tCons (tLst (tCons (tC (.str "turn")) tNil)) tNil))))))
def t_law_r14 (K : PySem.W.Frag) (C : Cl) : TS := (tSeq (tAsg (tOp oAdd (tOp oAdd (tCall (sp_l_cell_at K C) [] C8.E0 (tCons (tVar 0) (tCons (tC (.int 10)) tNil))) (tOp oMul (tC (.int 31)) (tCall (sp_l_cell_at K C) [] C8.E0 (tCons (tVar 0) (tCons (tC (.int 0)) tNil))))) (tOp oMul (tC (.int 7)) (tCall (sp_l_cell_at K C) [] C8.E0 (tCons (tVar 0) (tCons (tC (.int 1)) tNil))))) (gName 10)) (tSeq (tAsg (tCall (sp_l_draw K C) [] C8.E0 (tCons (tVar 10) (tCons (tC (.int 1)) (tCons (tOp oAdd (tCB rLenS (tCons (tVar 4) tNil)) (tC (.int 1))) tNil)))) (gName 11)) (tSeq (tAsg (tOp rIxS (tC (.str "0123456789ab;. cutdealriffleunderweave")) (tCall (sp_l_draw K C) [] C8.E0 (tCons (tVar 10) (tCons (tC (.int 2)) (tCons (tC (.int 38)) tNil))))) (gName 12)) (tSeq (tAsg (tOp (rIxT K) (tTup (tCons (tC (.str "")) (tCons (tVar 12) (tCons (tVar 12) tNil)))) (tCall (sp_l_draw K C) [] C8.E0 (tCons (tVar 10) (tCons (tC (.int 3)) (tCons (tC (.int 3)) tNil))))) (gName 12)) (tSeq (tAsg (tOp rAddS (tOp rAddS (tSl C8.rSlX (tVar 4) tNoPart (tPart (tVar 11))) (tVar 12)) (tSl C8.rSlX (tVar 4) (tPart (tOp oAdd (tVar 11) (tCall (sp_l_draw K C) [] C8.E0 (tCons (tVar 10) (tCons (tC (.int 4)) (tCons (tC (.int 2)) tNil)))))) tNoPart)) (gName 13)) (t_law_r19 K C))))))
def t_law_r12 (K : PySem.W.Frag) (C : Cl) : TS := (tSeq (tDrop (tBM K "list" rAppend (tVar 7) (tCons (tC (.int 0)) tNil))) (tSeq (tIfS (tTest (tOp rNe (tCall (sp_p_written K C) [] C8.E0 (tCons (tCall (sp_p_read K C) [] C8.E0 (tCons (tVar 4) tNil)) tNil)) (tVar 4))) (tRet (tC (.bl false))) tNext) (t_law_r14 K C)))
def t_law_r8 (K : PySem.W.Frag) (C : Cl) : TS := (tSeq (tAsg (tCall (sp_l_order K C) [] C8.E0 (tCons (tCall (sp_l_cell_at K C) [] C8.E0 (tCons (tVar 0) (tCons (tC (.int 9)) tNil))) (tCons (tVar 1) tNil))) (gName 8)) (tSeq (tAsg (tCB (rListOf K) (tCons (tVar 8) tNil)) (gName 9)) (tSeq (tFor (iList K (tVar 2)) (gName 5) (t_law_b2 K C)) (tSeq (tIfS (tTest (tOp (rNeD K) (tCall (sp_p_done_all K C) [] C8.E0 (tCons (tVar 7) (tCons (tVar 8) tNil))) (tVar 9))) (tRet (tC (.bl false))) tNext) (t_law_r12 K C)))))
def t_law_r5 (K : PySem.W.Frag) (C : Cl) : TS := (tSeq (tIfS (tOr (tTest (tOp rNe (tCall (sp_p_written K C) [] C8.E0 (tCons (tVar 6) tNil)) (tVar 4))) (tTest (tOp rNe (tCB (rLenQ K) (tCons (tVar 6) tNil)) (tCB (rLenQ K) (tCons (tVar 2) tNil))))) (tRet (tC (.bl false))) tNext) (tSeq (tAsg (tCall (sp_p_read K C) [] C8.E0 (tCons (tVar 4) tNil)) (gName 7)) (tSeq (tIfS (tOr (tNot (tB (tCB (rIsi K) (tCons (tVar 7) (tCons (tC (.ty "list")) tNil))))) (tTest (tOp rNe (tCall (sp_p_written K C) [] C8.E0 (tCons (tVar 7) tNil)) (tVar 4)))) (tRet (tC (.bl false))) tNext) (t_law_r8 K C))))
def t_law_r3 (K : PySem.W.Frag) (C : Cl) : TS := (tSeq (tAsg (tBM K "str" (rJoinS K) (tC (.str "; ")) (tCons (tLc (iList K (tVar 2)) (gName 5) tYes (tCall (sp_l_text K C) [] C8.E0 (tCons (tVar 5) tNil)) [5]) tNil)) (gName 4)) (tSeq (tAsg (tLc (iList K (tVar 2)) (gName 5) tYes (tCall (sp_l_made K C) [] C8.E0 (tCons (tVar 5) tNil)) [5]) (gName 6)) (t_law_r5 K C)))
def t_law (K : PySem.W.Frag) (C : Cl) : TS := (tSeq (tAsg (tCall (sp_l_many K C) [] C8.E0 (tCons (tCall (sp_l_cell_at K C) [] C8.E0 (tCons (tVar 0) (tCons (tC (.int 0)) tNil))) (tCons (tC (.int 0)) tNil))) (gName 1)) (tSeq (tAsg (tLst tNil) (gName 2)) (tSeq (tFor (iRng1 (tCons (tCall (sp_l_draw K C) [] C8.E0 (tCons (tCall (sp_l_cell_at K C) [] C8.E0 (tCons (tVar 0) (tCons (tC (.int 1)) tNil))) (tCons (tC (.int 0)) (tCons (tC (.int 7)) tNil)))) tNil)) (gName 3) (t_law_b1 K C)) (t_law_r3 K C))))
abbrev n_law : List Str := ["_law_script", "_law_many_here", "_law_told_here", "_law_k", "_law_text_here", "_law_one", "_law_handed", "_law_found", "_law_order_here", "_law_now", "_law_cell", "_law_at", "_law_sign", "_law_other"]
theorem doneAll_snoc (ms : List Mv) (m : Mv) (os : List Nat) : doneAll (ms ++ [m]) os = doneF m (doneAll ms os) := by unfold doneAll; rw [List.foldl_append]; rfl
theorem slice_len (z : Str) (lo hi : Option Int) : (Txt.slice z lo hi).length ≤ z.length := by
  rw [← C8.cutS_slice]
  have e : z.length = z.cps.toList.length := by simp [Str.length]
  show ((z.cps.toList.drop _).take _).toArray.size ≤ _
  rw [List.size_toArray, List.length_take, List.length_drop, e]
  omega
theorem routine_len {ms : List Mv} (h : ∀ m ∈ ms, m.Ok) : (routine ms).length ≤ ms.length * 69 := by
  unfold routine
  rw [TL.join_eq]
  induction ms with
  | nil => exact Nat.le_of_eq (by decide +kernel)
  | cons m ms ih =>
    have h1 := mvText_len (h m (List.mem_cons_self ..))
    have ih := ih fun x hx => h x (List.mem_cons_of_mem _ hx)
    cases ms with
    | nil =>
      show (mvText m).length ≤ _
      simp only [List.length_cons, List.length_nil]
      omega
    | cons k ms =>
      show (mvText m ++ semi ++ Str.join semi ((k :: ms).map mvText)).length ≤ _
      rw [str_len_app, str_len_app, semi_len]
      have ih : (Str.join semi ((k :: ms).map mvText)).length ≤ (k :: ms).length * 69 := ih
      simp only [List.length_cons] at ih ⊢
      omega
theorem mvs_of {H0 : Hp} {p : Addr} {ms : List Mv} (h : NewMvs C H0 H p ms) : Mvs K C H p ms := by
  obtain ⟨zs, _, _, h1, h2, h3⟩ := h
  exact ⟨zs, sl_of h1, h2, fun z hz => (h3 z hz).2⟩
theorem c_read {u : Str} {ms : List Mv} (hu : u.length ≤ 100000) (hok : ∀ m ∈ ms, m.Ok) (hr : routine ms = u) (k : ∀ q H', NewMvs C H H' q ms → Q (.ref q) H') : sp_p_read K C [.str u] H Q E :=
  ⟨u, ms, rfl, hu, hok, hr, fun q H' zs h0 s h1 h2 h3 => k q H' ⟨zs, h0, s, h1, h2, h3⟩⟩
/-- moves told, in a list -/
def Tolds (K : PySem.W.Frag) (H : Hp) (p : Addr) (ms : List Mv) : Prop := ∃ zs : List (Addr × Mv), SqL K H p (zs.map vZ) ∧ zs.map (·.2) = ms ∧ ∀ z ∈ zs, Told K H z.1 z.2
theorem tolds_same {H' : Hp} {p : Addr} {ms : List Mv} (s : Same H H') (h : Tolds K H p ms) : Tolds K H' p ms := by
  obtain ⟨zs, h1, h2, h3⟩ := h
  exact ⟨zs, sl_same s h1, h2, fun z hz => told_same s (h3 z hz)⟩
theorem few_turn {nx bk ct : L2.St → Hp → Prop} {x0 x1 x2 x3 x4 x6 x7 x8 x9 x10 x11 x12 x13 : Option V} {u : Str} (hu : u.length ≤ 1500) (k : ∀ H', Same H H' → nx [x0, x1, x2, x3, x4, some (.str u), x6, x7, x8, x9, x10, x11, x12, x13] H') :
    t_law_b3 K C ⟨nx, Q, bk, ct⟩ [x0, x1, x2, x3, x4, some (.str u), x6, x7, x8, x9, x10, x11, x12, x13] H := by
  unfold t_law_b3
  refine c_ifS (c_tB (c_call (c_cons (c_var rfl (c_nil ⟨u, rfl, by omega, ?_⟩)))))
  by_cases hw : Writes u
  · obtain ⟨ms, hok, hr⟩ := writes_ms hw
    have hlen : ms.length ≤ 1000 := by
      by_cases e : ms = []
      · rw [e]; simp
      · have h1 := split_two u
        rw [← hr, split_routine hok e, List.length_map, hr] at h1
        have h2 := join_two (ms.map mvText) (fun z => e (List.map_eq_nil_iff.mp z))
        rw [← TL.join_eq, List.length_map] at h2
        have h3 : (Txt.join semi (ms.map mvText)).length = u.length := by rw [← hr]; rfl
        omega
    refine .inl ⟨hw, fun H1 s1 => c_kB (if_t rfl ?_)⟩
    refine c_ifS (c_tTest (c_op (c_call (c_cons (c_call (c_cons (c_var rfl (c_nil (c_read (by omega) hok hr fun q H2 hN => c_nil ?_)))))))))
    have s2 := hN.choose_spec.2.1
    refine c_written (mvs_of hN) hlen fun H3 s3 => c_var rfl (c_neS (c_kB ?_))
    exact if_f (by rw [decide_eq_true hr]; rfl) (c_next (k _ ((s1.trans s2).trans s3)))
  · refine .inr ⟨hw, fun H1 s1 => c_kB (if_f rfl ?_)⟩
    refine c_ifS (c_not (c_tB (c_call (c_cons (c_var rfl (c_nil ⟨_, rfl, .inr ⟨u, rfl, by omega, hw⟩, fun H2 s2 => c_kB (if_f rfl (c_next (k _ (s1.trans s2))))⟩))))))
theorem law_few {x0 x1 x2 x3 x4 x5 x6 x7 x8 x9 x10 x11 x12 : Option V} {u : Str} {bk ct : L2.St → Hp → Prop} (hu : u.length ≤ 1500) (kk : ∀ H', Q (.bl true) H') :
    t_law_r19 K C ⟨fun _ H' => Q .non H', Q, bk, ct⟩ [x0, x1, x2, x3, x4, x5, x6, x7, x8, x9, x10, x11, x12, some (.str u)] H := by
  unfold t_law_r19
  refine c_seq (c_forL (c_op (c_lst (c_cons (c_var rfl (c_nil (c_kLst (by simp) fun p H1 hp s1 hp1 => ?_)))))))
  refine c_call (c_nil ⟨rfl, fun us hn hl q H2 hq s2 hq2 => ?_⟩)
  have hp2 : H2 p = some (.lst ([u].map V.str)) := s2 _ _ hp1
  refine c_cat hp2 hq2 (by simp; omega) fun r H3 hr s3 hr3 => ?_
  rw [← List.map_append] at hr3
  have hall : ∀ w ∈ [u] ++ us, w.length ≤ 1500 := fun w hw => by
    rcases List.mem_append.mp hw with hw | hw
    · rw [List.mem_singleton] at hw
      subst hw
      exact hu
    · have := hl w hw
      omega
  refine l_forM (f := V.str) (sl_of hr3) (fun pre σ' H' => ∃ x5, σ' = [x0, x1, x2, x3, x4, x5, x6, x7, x8, x9, x10, x11, x12, some (.str u)] ∧ Same H3 H') ⟨_, rfl, Same.refl _⟩ ?_ ?_ ?_
  · rintro pre post _ H' e ⟨x5, rfl, s4⟩
    exact sl_same s4 (sl_of hr3)
  · rintro pre w post _ H' e ⟨x5, rfl, s4⟩
    exact c_gn5 (few_turn (hall w (by rw [e]; exact List.mem_append_right _ (List.mem_cons_self ..))) fun H5 s5 => ⟨_, rfl, s4.trans s5⟩)
  · rintro _ H' ⟨x5, rfl, s4⟩
    refine c_ret (c_andV (c_call (c_cons (c_c (c_nil ⟨_, rfl, .inl ⟨"NoneType", .base .non, by decide +kernel⟩, fun H5 s5 => c_kB (if_t rfl ?_)⟩)))))
    refine c_andV (c_call (c_cons (c_c (c_nil ⟨_, rfl, .inl ⟨"int", .base (.int _), by decide +kernel⟩, fun H6 s6 => c_kB (if_t rfl ?_)⟩))))
    refine c_call (c_cons (c_lst (c_cons (c_c (c_nil (c_kLst (by simp) fun q H7 hq s7 hq7 => c_nil ⟨_, rfl, .inl ⟨"list", .base (.lst hq7), by decide +kernel⟩, fun H8 s8 => kk _⟩))))))
abbrev signs : Str := Str.ofString "0123456789ab;. cutdealriffleunderweave"
theorem signs_at {d : Nat} (h : d < 38) : ∃ c, atI signs.cps.toList (d : Int) = some c := by
  have : ∀ i : Fin 38, (atI signs.cps.toList ((i.val : Nat) : Int)).isSome = true := by decide +kernel
  exact Option.isSome_iff_exists.mp (this ⟨d, h⟩)
theorem law_other {H0 : Hp} {a : Addr} {ns : List Int} {x1 x2 x3 x5 x6 x7 x8 x9 x10 x11 x12 x13 : Option V} {u : Str} {bk ct : L2.St → Hp → Prop} (hs : SqL K H a (ns.map V.int)) (hu : u.length ≤ 500) (kk : ∀ H', Q (.bl true) H') :
    t_law_r14 K C ⟨fun _ H' => Q .non H', Q, bk, ct⟩ [some (.ref a), x1, x2, x3, some (.str u), x5, x6, x7, x8, x9, x10, x11, x12, x13] H := by
  unfold t_law_r14
  refine c_seq (c_asg (c_op (c_op (c_call (c_cons (c_var rfl (c_cons (c_c (c_nil (c_cell_at hs (by decide) ?_))))))))))
  refine c_op (c_c (c_call (c_cons (c_var rfl (c_cons (c_c (c_nil (c_cell_at hs (by decide) (c_mul (by omega) (c_i0 ?_))))))))))
  refine c_op (c_c (c_call (c_cons (c_var rfl (c_cons (c_c (c_nil (c_cell_at hs (by decide) (c_mul (by omega) (c_i0 (c_gnS (c_gn1 ?_))))))))))))
  refine c_seq (c_asg (c_call (c_cons (c_var rfl (c_cons (c_c (c_cons (c_op (c_CB (c_cons (c_var rfl (c_nil (c_lenS (by omega) (c_c (c_i0 (c_nil ?_))))))))))))))))
  refine c_drawB (by decide) (by omega) fun at' H1 hat s1 => c_gnS (c_gn2 ?_)
  refine c_seq (c_asg (c_op (c_c (c_call (c_cons (c_var rfl (c_cons (c_c (c_cons (c_c (c_nil (c_drawB (by decide) (by decide) fun d H2 hd s2 => ?_))))))))))))
  obtain ⟨c, hc⟩ := signs_at (d := d) (by simpa using hd)
  refine c_ixS (by decide +kernel) hc (c_gnS (c_gn3 ?_))
  refine c_seq (c_asg (c_op (c_tup (c_cons (c_c (c_cons (c_var rfl (c_cons (c_var rfl (c_nil (c_kTup (by simp) fun t H3 ht s3 ht3 => ?_)))))))))))
  refine c_call (c_cons (c_var rfl (c_cons (c_c (c_cons (c_c (c_nil (c_drawB (by decide) (by decide) fun d3 H4 hd3 s4 => ?_))))))))
  have hx : ∃ w : Str, w.length ≤ 1 ∧ atI [V.str (Str.ofString ""), V.str ⟨#[c]⟩, V.str ⟨#[c]⟩] (d3 : Int) = some (V.str w) := by
    have hd3 : d3 < 3 := by simpa using hd3
    have : d3 = 0 ∨ d3 = 1 ∨ d3 = 2 := by omega
    rcases this with rfl | rfl | rfl
    · exact ⟨_, by decide +kernel, rfl⟩
    · exact ⟨⟨#[c]⟩, Nat.le_refl 1, rfl⟩
    · exact ⟨⟨#[c]⟩, Nat.le_refl 1, rfl⟩
  obtain ⟨w, hw, hxw⟩ := hx
  refine c_ixT (v := .str w) (st_of (s4 _ _ ht3)) hxw (c_gnS (c_gn3 ?_))
  refine c_seq (c_asg (c_op (c_op (c_sl (c_var rfl (c_noP (c_part (c_var rfl (c_kPart (c_slX (by omega) (c_var rfl ?_)))))))))))
  have h1 := slice_len u none (some (at' : Int))
  refine c_addS (by omega) ?_
  refine c_sl (c_var rfl (c_part (c_op (c_var rfl (c_call (c_cons (c_var rfl (c_cons (c_c (c_cons (c_c (c_nil (c_drawB (by decide) (by decide) fun d4 H5 hd4 s5 => ?_)))))))))))))
  refine c_i0 (c_kPart (c_noP (c_slX (by omega) ?_)))
  have h2 := slice_len u (some ((at' : Int) + (d4 : Int))) none
  refine c_addS (by rw [str_len_app]; omega) (c_gnS (c_gn4 (law_few ?_ kk)))
  rw [str_len_app, str_len_app]
  omega
theorem done_len {m : Mv} {os : List Nat} (h : m.Ok) (hf : m.Fits os.length) : (doneF m os).length = os.length := by unfold doneF; rw [pick_length, came_len h hf]
theorem law_found {H0 : Hp} {a f : Addr} {ns : List Int} {xs : List V} {ms : List Mv} {x1 x2 x3 x5 x6 x8 x9 x10 x11 x12 x13 : Option V} {u : Str} {bk ct : L2.St → Hp → Prop} (hs : SqL K H0 a (ns.map V.int)) (h0 : H0 f = none) (sH : Same H0 H) (hf : H f = some (.lst xs)) (hx : xs.length ≤ 6)
    (hok : ∀ m ∈ ms, m.Ok) (hr : routine ms = u) (hl : ms.length ≤ 6) (kk : ∀ H', Q (.bl true) H') :
    t_law_r12 K C ⟨fun _ H' => Q .non H', Q, bk, ct⟩ [some (.ref a), x1, x2, x3, some (.str u), x5, x6, some (.ref f), x8, x9, x10, x11, x12, x13] H := by
  have hul := routine_len hok
  rw [hr] at hul
  unfold t_law_r12
  refine c_seq (c_drop (c_bm (c_var rfl (c_kBMl (sl_of hf) (c_cons (c_c (c_nil (c_append hf (by omega) fun H1 e1 hf1 => ?_))))))))
  have s1 : Same H0 H1 := same_of_but h0 sH e1
  refine c_seq (c_ifS (c_tTest (c_op (c_call (c_cons (c_call (c_cons (c_var rfl (c_nil (c_read (by omega) hok hr fun q H2 hN => c_nil ?_))))))))))
  have s2 := hN.choose_spec.2.1
  refine c_written (mvs_of hN) (by omega) fun H3 s3 => c_var rfl (c_neS (c_kB ?_))
  exact if_f (by rw [decide_eq_true hr]; rfl) (c_next (law_other (H0 := H0) (sl_same ((s1.trans s2).trans s3) hs) (by omega) kk))
theorem law_done {H0 : Hp} {a p f : Addr} {n : Nat} {ns : List Int} {ms : List Mv} {x3 x5 x6 x8 x9 x10 x11 x12 x13 : Option V} {u : Str} {bk ct : L2.St → Hp → Prop} (hs : SqL K H0 a (ns.map V.int)) (hN : NewMvs C H0 H f ms) (hT : Tolds K H0 p ms)
    (hok : ∀ m ∈ ms, m.Ok) (hft : ∀ m ∈ ms, m.Fits n) (h1 : 1 ≤ n) (h60 : n ≤ 60) (hr : routine ms = u) (hl : ms.length ≤ 6) (kk : ∀ H', Q (.bl true) H') :
    t_law_r8 K C ⟨fun _ H' => Q .non H', Q, bk, ct⟩ [some (.ref a), some (vN n), some (.ref p), x3, some (.str u), x5, x6, some (.ref f), x8, x9, x10, x11, x12, x13] H := by
  have hM : Mvs K C H f ms := mvs_of hN
  obtain ⟨zs', h0, sH, hf, hz', _⟩ := hN
  have hsH := sl_same sH hs
  obtain ⟨zs, hz1, hz2, hz3⟩ := tolds_same sH hT
  unfold t_law_r8
  refine c_seq (c_asg (c_call (c_cons (c_call (c_cons (c_var rfl (c_cons (c_c (c_nil (c_cell_at hsH (by decide) (c_cons (c_var rfl (c_nil (c_order ⟨h1, h60⟩ fun o os H1 hp ho s1 ho1 => c_gn8 ?_))))))))))))))
  refine c_seq (c_asg (c_CB (c_cons (c_var rfl (c_nil (c_listOf (sl_of ho1) fun w H2 hw s2 hw2 => c_gnS (c_gn0 ?_)))))))
  have hos := hp.1
  have s02 := s1.trans s2
  have hord := ord_of hp h1 h60
  refine c_seq (c_forL (c_var rfl ?_))
  refine l_forM (f := vZ) (sl_same s02 hz1) (fun pre σ' H' => ∃ x5 w os', σ' = [some (.ref a), some (vN n), some (.ref p), x3, some (.str u), x5, x6, some (.ref f), some (.ref o), some (.ref w), x10, x11, x12, x13] ∧ Same H2 H' ∧ H' w = some (.lst (os'.map vN)) ∧ os' = doneAll (pre.map (·.2)) os ∧ Ord os' ∧ os'.length = n) ⟨_, _, _, rfl, Same.refl _, hw2, rfl, hord, hos⟩ ?_ ?_ ?_
  · rintro pre post _ H' e ⟨x5, w, os', rfl, s3, _⟩
    exact sl_same (s02.trans s3) hz1
  · rintro pre z post _ H' e ⟨x5, w, os', rfl, s3, hw3, he, hor, hln⟩
    have hzm : z ∈ zs := by
      rw [e]
      exact List.mem_append_right _ (List.mem_cons_self ..)
    have hzm2 : z.2 ∈ ms := by
      rw [← hz2]
      exact List.mem_map.mpr ⟨z, hzm, rfl⟩
    have hk := hok _ hzm2
    have hf2 : z.2.Fits os'.length := by rw [hln]; exact hft _ hzm2
    unfold t_law_b2
    refine c_gn5 (c_asg (c_call (c_cons (c_var rfl (c_cons (c_var rfl (c_nil (c_moved (sl_of hw3) (told_same (s02.trans s3) (hz3 z hzm)) hor.2.1 hk hf2 fun q H4 hq s4 hq4 => c_gnS (c_gn0 ?_)))))))))
    refine ⟨_, _, _, rfl, s3.trans s4, hq4, ?_, ord_done hk hf2 hor, by rw [done_len hk hf2]; exact hln⟩
    rw [List.map_append, List.map_cons, List.map_nil, doneAll_snoc, he]
  · rintro _ H' ⟨x5, w, os', rfl, s3, hw3, he, hor, hln⟩
    rw [hz2] at he
    have s13 : Same H1 H' := s2.trans s3
    refine c_seq (c_ifS (c_tTest (c_op (c_call (c_cons (c_var rfl (c_cons (c_var rfl (c_nil (c_doneAll (mvs_same (s02.trans s3) hM) (sl_of (s13 _ _ ho1)) hord (fun m hm => by rw [hos]; exact hft m hm) fun q H4 hq s4 hq4 => c_var rfl (c_neLst leaf_nat (sl_of hq4) (sl_of (s4 _ _ hw3)) (c_kB ?_))))))))))))
    refine if_f (by rw [decide_eq_true he.symm]; rfl) (c_next ?_)
    have s04 := (s02.trans s3).trans s4
    exact law_found hs h0 (sH.trans s04) (s04 _ _ hf) (by rw [List.length_map]; have := congrArg List.length hz'; simp at this; omega) hok hr hl kk
theorem law_read {H0 : Hp} {a p h : Addr} {n : Nat} {ns : List Int} {ms : List Mv} {x3 x5 x7 x8 x9 x10 x11 x12 x13 : Option V} {u : Str} {bk ct : L2.St → Hp → Prop} (hs : SqL K H0 a (ns.map V.int)) (hN : NewMvs C H0 H h ms) (hT : Tolds K H0 p ms)
    (hok : ∀ m ∈ ms, m.Ok) (hft : ∀ m ∈ ms, m.Fits n) (h1 : 1 ≤ n) (h60 : n ≤ 60) (hr : routine ms = u) (hl : ms.length ≤ 6) (kk : ∀ H', Q (.bl true) H') :
    t_law_r5 K C ⟨fun _ H' => Q .non H', Q, bk, ct⟩ [some (.ref a), some (vN n), some (.ref p), x3, some (.str u), x5, some (.ref h), x7, x8, x9, x10, x11, x12, x13] H := by
  have hul := routine_len hok
  rw [hr] at hul
  have hM : Mvs K C H h ms := mvs_of hN
  obtain ⟨zs', h0, sH, hf, hz', _⟩ := hN
  have hsH := sl_same sH hs
  have hTH := tolds_same sH hT
  obtain ⟨zs, hz1, hz2, hz3⟩ := id hTH
  have hlen : zs'.length = zs.length := by
    have e1 := congrArg List.length hz'
    have e2 := congrArg List.length hz2
    rw [List.length_map] at e1 e2
    omega
  unfold t_law_r5
  refine c_seq (c_ifS (c_or (c_tTest (c_op (c_call (c_cons (c_var rfl (c_nil (c_written hM (by omega) fun H1 s1 => c_var rfl (c_neS (c_kB ?_)))))))))))
  refine if_f (by rw [decide_eq_true hr]; rfl) ?_
  refine c_tTest (c_op (c_CB (c_cons (c_var rfl (c_nil (c_lenM (f := vZ) (sl_of (s1 _ _ hf)) (c_CB (c_cons (c_var rfl (c_nil (c_lenM (f := vZ) (sl_same s1 hz1) (c_neI (c_kB ?_)))))))))))))
  refine if_f (by rw [hlen]; simp) (c_next ?_)
  refine c_seq (c_asg (c_call (c_cons (c_var rfl (c_nil (c_read (C := C) (by omega) hok hr fun f H2 hN2 => c_gn7 ?_))))))
  have hN3 := hN2
  obtain ⟨zs2, g0, s2, hf2, hzz2, hmm2⟩ := id hN2
  refine c_seq (c_ifS (c_or (c_not (c_tB (c_CB (c_cons (c_var rfl (c_cons (c_c (c_nil (c_isiL (sl_of hf2) kit_list_list (c_kB (if_f rfl ?_)))))))))))))
  refine c_tTest (c_op (c_call (c_cons (c_var rfl (c_nil (c_written (mvs_of hN2) (by omega) fun H3 s3 => c_var rfl (c_neS (c_kB ?_))))))))
  refine if_f (by rw [decide_eq_true hr]; rfl) (c_next ?_)
  have s01 := sH.trans s1
  exact law_done (sl_same s01 hs) ⟨zs2, g0, s2.trans s3, s3 _ _ hf2, hzz2, fun z hz => ⟨(hmm2 z hz).1, mvAt_same s3 (hmm2 z hz).2⟩⟩ (tolds_same s01 hT) hok hft h1 h60 hr hl kk
theorem law_text {a p : Addr} {n : Nat} {ns : List Int} {ms : List Mv} {x3 x4 x5 x6 x7 x8 x9 x10 x11 x12 x13 : Option V} {bk ct : L2.St → Hp → Prop} (hs : SqL K H a (ns.map V.int)) (hT : Tolds K H p ms)
    (hok : ∀ m ∈ ms, m.Ok) (hft : ∀ m ∈ ms, m.Fits n) (h1 : 1 ≤ n) (h60 : n ≤ 60) (hl : ms.length ≤ 6) (kk : ∀ H', Q (.bl true) H') :
    t_law_r3 K C ⟨fun _ H' => Q .non H', Q, bk, ct⟩ [some (.ref a), some (vN n), some (.ref p), x3, x4, x5, x6, x7, x8, x9, x10, x11, x12, x13] H := by
  obtain ⟨zs, hz1, hz2, hz3⟩ := id hT
  have hzl : zs.length ≤ 6 := by
    have := congrArg List.length hz2
    rw [List.length_map] at this
    omega
  have hzo : ∀ z ∈ zs, z.2.Ok := fun z hz => hok _ (by rw [← hz2]; exact List.mem_map.mpr ⟨z, hz, rfl⟩)
  unfold t_law_r3
  refine c_seq (c_asg (c_bm (c_c (c_kBMs (c_cons (c_lcL (c_var rfl ?_)))))))
  refine l_lcF (f := vZ) (fun z => .str (mvText z.2)) hz1 (by omega) (fun x => rfl) (fun z H' q hz s k => c_call (c_cons (c_var rfl (c_nil ⟨z.1, z.2, rfl, told_same s (hz3 z hz), hzo z hz, fun H'' s' => k H'' s'⟩)))) fun l H1 hl1 s1 hl2 => c_nil ?_
  have e : zs.map (fun z => V.str (mvText z.2)) = (zs.map fun z => mvText z.2).map V.str := by rw [List.map_map]; rfl
  rw [e] at hl2
  have hsum := sum_le (l := zs) (f := fun z => (mvText z.2).length) (c := 67) fun z hz => mvText_len (hzo z hz)
  refine c_joinS (ys := zs.map fun z => mvText z.2) (sl_of hl2) ?_ (c_gn4 ?_)
  · rw [List.map_map, List.length_map]
    show (zs.map fun z => (mvText z.2).length).sum + _ * semi.length ≤ _
    rw [semi_len]
    omega
  have er : Txt.join semi (zs.map fun z => mvText z.2) = routine ms := by
    unfold routine
    rw [← hz2, List.map_map]
    rfl
  show tSeq _ _ _ [some (.ref a), some (vN n), some (.ref p), x3, some (.str (Txt.join semi (zs.map fun z => mvText z.2))), x5, x6, x7, x8, x9, x10, x11, x12, x13] H1
  rw [er]
  refine c_seq (c_asg (c_lcL (c_var rfl ?_)))
  refine l_lcMvs (C := C) (f := vZ) (fun z => z.2) (sl_same s1 hz1) (by omega) (fun x => rfl) (fun z H' q hz s k => c_call (c_cons (c_var rfl (c_nil (c_made (told_same (s1.trans s) (hz3 z hz)) (hzo z hz) fun p H'' hp s' hm => k p H'' hp s' hm))))) fun h H2 hN => c_gn6 ?_
  rw [hz2] at hN
  exact law_read (sl_same s1 hs) hN (tolds_same s1 hT) hok hft h1 h60 rfl hl kk
theorem rd_law (F : CF K C) (h : sp_law K C vs H Q E) : t_law K C { nx := fun _ H' => Q .non H', rt := Q } (start n_law vs) H := by
  obtain ⟨a, ns, rfl, hs, h63, kk⟩ := h
  show t_law K C _ [some (.ref a), none, none, none, none, none, none, none, none, none, none, none, none, none] H
  unfold t_law
  refine c_seq (c_asg (c_call (c_cons (c_call (c_cons (c_var rfl (c_cons (c_c (c_nil (c_cell_at hs (by decide) (c_cons (c_c (c_nil (c_many (by decide) fun n H1 h1 h60 s1 => c_gn1 ?_))))))))))))))
  have hs1 := sl_same s1 hs
  refine c_seq (c_asg (c_lst (c_nil (c_kLst (by simp) fun p H2 hp s2 hp2 => c_gn2 ?_))))
  have hs2 := sl_same s2 hs1
  refine c_seq (c_for1 (c_cons (c_call (c_cons (c_call (c_cons (c_var rfl (c_cons (c_c (c_nil (c_cell_at hs2 (by decide) (c_cons (c_c (c_cons (c_c (c_nil (c_drawB (by decide) (by decide) fun d H3 hd s3 => c_nil ?_)))))))))))))))))
  refine l_for1 d rfl (by omega) (fun i σ' H' => ∃ x3, ∃ zs : List (Addr × Mv), σ' = [some (.ref a), some (vN n), some (.ref p), x3, none, none, none, none, none, none, none, none, none, none] ∧ Same H1 H' ∧ H' p = some (.lst (zs.map vZ)) ∧ zs.length = i ∧ ∀ z ∈ zs, H' z.1 = some (.tup [vN z.2.sort, z.2.thing]) ∧ z.2.Ok ∧ z.2.Fits n)
    ⟨_, [], rfl, s2.trans s3, s3 _ _ hp2, rfl, fun _ h => absurd h List.not_mem_nil⟩ ?_ ?_
  · rintro i _ H4 hi ⟨x3, zs, rfl, s4, hp4, hzl, hz⟩
    have hs4 := sl_same s4 hs1
    unfold t_law_b1
    refine c_gn3 (c_drop (c_bm (c_var rfl (c_kBMl (sl_of hp4) (c_cons (c_call (c_cons (c_op (c_call (c_cons (c_var rfl (c_cons (c_op (c_c (c_var rfl (c_i0 (c_nil (c_cell_at hs4 (by omega) ?_))))))))))))))))))
    refine c_op (c_c (c_var rfl (c_mul (by omega) (c_i0 (c_cons (c_var rfl (c_nil (c_told ⟨h1, h60⟩ fun m t H5 hok hft ht s5 ht5 => c_nil ?_))))))))
    refine c_append (s5 _ _ hp4) (by rw [List.length_map]; omega) fun H6 e6 hp6 => ?_
    have hpn : ∀ (q : Addr) (ys : List V), H5 q = some (.tup ys) → q ≠ p := fun q ys hq z => by
      subst z
      rw [s5 _ _ hp4] at hq
      cases hq
    refine ⟨_, zs ++ [(t, m)], rfl, same_of_but hp (s4.trans s5) e6, by rw [hp6, List.map_append]; rfl, by rw [List.length_append, hzl]; rfl, fun z hz' => ?_⟩
    rcases List.mem_append.mp hz' with hz' | hz'
    · have h5 := s5 _ _ (hz z hz').1
      exact ⟨e6 _ _ (hpn _ _ h5) h5, (hz z hz').2⟩
    · rw [List.mem_singleton] at hz'
      subst hz'
      exact ⟨e6 _ _ (hpn _ _ ht5) ht5, hok, hft⟩
  · rintro _ H4 ⟨x3, zs, rfl, s4, hp4, hzl, hz⟩
    have hms : ∀ m ∈ zs.map (·.2), m.Ok ∧ m.Fits n := fun m hm => by
      obtain ⟨z, hz', rfl⟩ := List.mem_map.mp hm
      exact (hz z hz').2
    have hdl : zs.length ≤ 6 := by
      have : d < 7 := by simpa using hd
      omega
    exact law_text (ms := zs.map (·.2)) (sl_same s4 hs1) ⟨zs, sl_of hp4, rfl, fun z hz' => st_of (hz z hz').1⟩ (fun m hm => (hms m hm).1) (fun m hm => (hms m hm).2) h1 h60 (by rw [List.length_map]; exact hdl) kk
end Rf

set_option Elab.async false
set_option linter.all false
set_option maxRecDepth 100000
set_option maxHeartbeats 8000000
namespace Rf
open PySem PySem.Spec L2 Rm
/-! ### the text -/
def topS (i : Nat) : Stmt := PySem.Challenge.pw_riffles_k09_written.main.body.getD i (.Pass ⟨0, 0, 0, 0⟩)
abbrev s_p_within : Stmt := topS 9
theorem sc_p_within : FnScope n_p_within ["number", "low", "high"] (C8.fnScope s_p_within) := C8.fnScope_by (by decide +kernel)
abbrev s_p_check_order : Stmt := topS 10
theorem sc_p_check_order : FnScope n_p_check_order ["order"] (C8.fnScope s_p_check_order) := C8.fnScope_by (by decide +kernel)
abbrev s_p_Move_done : Stmt := inClass (topS 11) 1
theorem sc_p_Move_done : FnScope n_p_Move_done ["self", "order"] (C8.fnScope s_p_Move_done) := C8.fnScope_by (by decide +kernel)
abbrev s_p_Cut_init : Stmt := inClass (topS 12) 0
theorem sc_p_Cut_init : FnScope n_p_Cut_init ["self", "many"] (C8.fnScope s_p_Cut_init) := C8.fnScope_by (by decide +kernel)
abbrev s_p_Cut_came : Stmt := inClass (topS 12) 1
theorem sc_p_Cut_came : FnScope n_p_Cut_came ["self", "many"] (C8.fnScope s_p_Cut_came) := C8.fnScope_by (by decide +kernel)
abbrev s_p_Turn_came : Stmt := inClass (topS 13) 0
theorem sc_p_Turn_came : FnScope n_p_Turn_came ["self", "many"] (C8.fnScope s_p_Turn_came) := C8.fnScope_by (by decide +kernel)
abbrev s_p_Deal_init : Stmt := inClass (topS 14) 0
theorem sc_p_Deal_init : FnScope n_p_Deal_init ["self", "piles"] (C8.fnScope s_p_Deal_init) := C8.fnScope_by (by decide +kernel)
abbrev s_p_Deal_came : Stmt := inClass (topS 14) 1
theorem sc_p_Deal_came : FnScope n_p_Deal_came ["self", "many"] (C8.fnScope s_p_Deal_came) := C8.fnScope_by (by decide +kernel)
abbrev s_p_Under_came : Stmt := inClass (topS 15) 0
theorem sc_p_Under_came : FnScope n_p_Under_came ["self", "many"] (C8.fnScope s_p_Under_came) := C8.fnScope_by (by decide +kernel)
abbrev s_p_Weave_init : Stmt := inClass (topS 16) 0
theorem sc_p_Weave_init : FnScope n_p_Weave_init ["self", "first"] (C8.fnScope s_p_Weave_init) := C8.fnScope_by (by decide +kernel)
abbrev s_p_Weave_came : Stmt := inClass (topS 16) 1
theorem sc_p_Weave_came : FnScope n_p_Weave_came ["self", "many"] (C8.fnScope s_p_Weave_came) := C8.fnScope_by (by decide +kernel)
abbrev s_p_Riffle_init : Stmt := inClass (topS 17) 0
theorem sc_p_Riffle_init : FnScope n_p_Riffle_init ["self", "word"] (C8.fnScope s_p_Riffle_init) := C8.fnScope_by (by decide +kernel)
abbrev s_p_Riffle_came : Stmt := inClass (topS 17) 1
theorem sc_p_Riffle_came : FnScope n_p_Riffle_came ["self", "many"] (C8.fnScope s_p_Riffle_came) := C8.fnScope_by (by decide +kernel)
abbrev s_p_check_moves : Stmt := topS 18
theorem sc_p_check_moves : FnScope n_p_check_moves ["moves"] (C8.fnScope s_p_check_moves) := C8.fnScope_by (by decide +kernel)
abbrev s_p_done_all : Stmt := topS 19
theorem sc_p_done_all : FnScope n_p_done_all ["moves", "order"] (C8.fnScope s_p_done_all) := C8.fnScope_by (by decide +kernel)
abbrev s_p_move_text : Stmt := topS 22
theorem sc_p_move_text : FnScope n_p_move_text ["move"] (C8.fnScope s_p_move_text) := C8.fnScope_by (by decide +kernel)
abbrev s_p_written : Stmt := topS 23
theorem sc_p_written : FnScope n_p_written ["moves"] (C8.fnScope s_p_written) := C8.fnScope_by (by decide +kernel)
abbrev s_p_number_in : Stmt := topS 24
theorem sc_p_number_in : FnScope n_p_number_in ["text"] (C8.fnScope s_p_number_in) := C8.fnScope_by (by decide +kernel)
abbrev s_p_move_in : Stmt := topS 25
theorem sc_p_move_in : FnScope n_p_move_in ["text"] (C8.fnScope s_p_move_in) := C8.fnScope_by (by decide +kernel)
abbrev s_p_read : Stmt := topS 26
theorem sc_p_read : FnScope n_p_read ["text"] (C8.fnScope s_p_read) := C8.fnScope_by (by decide +kernel)
abbrev s_l_cell_at : Stmt := topS 28
theorem sc_l_cell_at : FnScope n_l_cell_at ["_law_script", "_law_k"] (C8.fnScope s_l_cell_at) := C8.fnScope_by (by decide +kernel)
abbrev s_l_draw : Stmt := topS 29
theorem sc_l_draw : FnScope n_l_draw ["_law_cell", "_law_k", "_law_many_here"] (C8.fnScope s_l_draw) := C8.fnScope_by (by decide +kernel)
abbrev s_l_order : Stmt := topS 30
theorem sc_l_order : FnScope n_l_order ["_law_cell", "_law_many_here"] (C8.fnScope s_l_order) := C8.fnScope_by (by decide +kernel)
abbrev s_l_many : Stmt := topS 31
theorem sc_l_many : FnScope n_l_many ["_law_cell", "_law_k"] (C8.fnScope s_l_many) := C8.fnScope_by (by decide +kernel)
abbrev s_l_word : Stmt := topS 32
theorem sc_l_word : FnScope n_l_word ["_law_cell", "_law_many_here"] (C8.fnScope s_l_word) := C8.fnScope_by (by decide +kernel)
abbrev s_l_riffled : Stmt := topS 33
theorem sc_l_riffled : FnScope n_l_riffled ["_law_order_here", "_law_word_here"] (C8.fnScope s_l_riffled) := C8.fnScope_by (by decide +kernel)
abbrev s_l_dealt : Stmt := topS 34
theorem sc_l_dealt : FnScope n_l_dealt ["_law_order_here", "_law_piles"] (C8.fnScope s_l_dealt) := C8.fnScope_by (by decide +kernel)
abbrev s_l_under : Stmt := topS 35
theorem sc_l_under : FnScope n_l_under ["_law_order_here"] (C8.fnScope s_l_under) := C8.fnScope_by (by decide +kernel)
abbrev s_l_moved : Stmt := topS 36
theorem sc_l_moved : FnScope n_l_moved ["_law_order_here", "_law_told_here"] (C8.fnScope s_l_moved) := C8.fnScope_by (by decide +kernel)
abbrev s_l_told : Stmt := topS 37
theorem sc_l_told : FnScope n_l_told ["_law_cell", "_law_many_here"] (C8.fnScope s_l_told) := C8.fnScope_by (by decide +kernel)
abbrev s_l_made : Stmt := topS 38
theorem sc_l_made : FnScope n_l_made ["_law_told_here"] (C8.fnScope s_l_made) := C8.fnScope_by (by decide +kernel)
abbrev s_l_text : Stmt := topS 39
theorem sc_l_text : FnScope n_l_text ["_law_told_here"] (C8.fnScope s_l_text) := C8.fnScope_by (by decide +kernel)
abbrev s_l_number : Stmt := topS 40
theorem sc_l_number : FnScope n_l_number ["_law_text_here", "_law_low", "_law_high"] (C8.fnScope s_l_number) := C8.fnScope_by (by decide +kernel)
abbrev s_l_writes : Stmt := topS 41
theorem sc_l_writes : FnScope n_l_writes ["_law_text_here"] (C8.fnScope s_l_writes) := C8.fnScope_by (by decide +kernel)
abbrev s_l_refused : Stmt := topS 42
theorem sc_l_refused : FnScope n_l_refused ["_law_text_here"] (C8.fnScope s_l_refused) := C8.fnScope_by (by decide +kernel)
abbrev s_l_few : Stmt := topS 43
theorem sc_l_few : FnScope n_l_few [] (C8.fnScope s_l_few) := C8.fnScope_by (by decide +kernel)
abbrev s_law : Stmt := topS 44
theorem sc_law : FnScope n_law ["_law_script"] (C8.fnScope s_law) := C8.fnScope_by (by decide +kernel)
def avK : Kd → Prop := fun _ => True
def prK : Kd → Prop := fun _ => True
theorem avyes_cut : avK .cut := by simp [avK]
theorem pryes_cut : prK .cut := by simp [prK]
theorem avyes_turn : avK .turn := by simp [avK]
theorem pryes_turn : prK .turn := by simp [prK]
theorem avyes_deal : avK .deal := by simp [avK]
theorem pryes_deal : prK .deal := by simp [prK]
theorem avyes_under : avK .under := by simp [avK]
theorem pryes_under : prK .under := by simp [prK]
theorem avyes_weave : avK .weave := by simp [avK]
theorem pryes_weave : prK .weave := by simp [prK]
theorem avyes_riffle : avK .riffle := by simp [avK]
theorem pryes_riffle : prK .riffle := by simp [prK]
structure Txt (K : PySem.W.Frag) (mg : Str → Option Value) (C : Cl) : Type where
  g_PackError : mg "PackError" = some (.ref C.cPackError)
  g_BadOrder : mg "BadOrder" = some (.ref C.cBadOrder)
  g_BadMove : mg "BadMove" = some (.ref C.cBadMove)
  g_BadNumber : mg "BadNumber" = some (.ref C.cBadNumber)
  g_BadText : mg "BadText" = some (.ref C.cBadText)
  g_Move : mg "Move" = some (.ref C.cMove)
  g_Cut : mg "Cut" = some (.ref C.cCut)
  g_Turn : mg "Turn" = some (.ref C.cTurn)
  g_Deal : mg "Deal" = some (.ref C.cDeal)
  g_Under : mg "Under" = some (.ref C.cUnder)
  g_Weave : mg "Weave" = some (.ref C.cWeave)
  g_Riffle : mg "Riffle" = some (.ref C.cRiffle)
  f_p_within : Addr
  fd_p_within : FuncData
  d_p_within : C8.Def K mg "within" s_p_within f_p_within fd_p_within
  bi_p_within : Binds K fd_p_within ["number", "low", "high"] []
  f_p_check_order : Addr
  fd_p_check_order : FuncData
  d_p_check_order : C8.Def K mg "check_order" s_p_check_order f_p_check_order fd_p_check_order
  bi_p_check_order : Binds K fd_p_check_order ["order"] []
  f_p_Move_done : Addr
  fd_p_Move_done : FuncData
  d_p_Move_done : C8.Fun K "done" "Move.done" s_p_Move_done f_p_Move_done fd_p_Move_done
  bi_p_Move_done : Binds K fd_p_Move_done ["self", "order"] []
  f_p_Cut_init : Addr
  fd_p_Cut_init : FuncData
  d_p_Cut_init : C8.Fun K "__init__" "Cut.__init__" s_p_Cut_init f_p_Cut_init fd_p_Cut_init
  bi_p_Cut_init : Binds K fd_p_Cut_init ["self", "many"] []
  f_p_Cut_came : Addr
  fd_p_Cut_came : FuncData
  d_p_Cut_came : C8.Fun K "came" "Cut.came" s_p_Cut_came f_p_Cut_came fd_p_Cut_came
  bi_p_Cut_came : Binds K fd_p_Cut_came ["self", "many"] []
  f_p_Turn_came : Addr
  fd_p_Turn_came : FuncData
  d_p_Turn_came : C8.Fun K "came" "Turn.came" s_p_Turn_came f_p_Turn_came fd_p_Turn_came
  bi_p_Turn_came : Binds K fd_p_Turn_came ["self", "many"] []
  f_p_Deal_init : Addr
  fd_p_Deal_init : FuncData
  d_p_Deal_init : C8.Fun K "__init__" "Deal.__init__" s_p_Deal_init f_p_Deal_init fd_p_Deal_init
  bi_p_Deal_init : Binds K fd_p_Deal_init ["self", "piles"] []
  f_p_Deal_came : Addr
  fd_p_Deal_came : FuncData
  d_p_Deal_came : C8.Fun K "came" "Deal.came" s_p_Deal_came f_p_Deal_came fd_p_Deal_came
  bi_p_Deal_came : Binds K fd_p_Deal_came ["self", "many"] []
  f_p_Under_came : Addr
  fd_p_Under_came : FuncData
  d_p_Under_came : C8.Fun K "came" "Under.came" s_p_Under_came f_p_Under_came fd_p_Under_came
  bi_p_Under_came : Binds K fd_p_Under_came ["self", "many"] []
  f_p_Weave_init : Addr
  fd_p_Weave_init : FuncData
  d_p_Weave_init : C8.Fun K "__init__" "Weave.__init__" s_p_Weave_init f_p_Weave_init fd_p_Weave_init
  bi_p_Weave_init : Binds K fd_p_Weave_init ["self", "first"] []
  f_p_Weave_came : Addr
  fd_p_Weave_came : FuncData
  d_p_Weave_came : C8.Fun K "came" "Weave.came" s_p_Weave_came f_p_Weave_came fd_p_Weave_came
  bi_p_Weave_came : Binds K fd_p_Weave_came ["self", "many"] []
  f_p_Riffle_init : Addr
  fd_p_Riffle_init : FuncData
  d_p_Riffle_init : C8.Fun K "__init__" "Riffle.__init__" s_p_Riffle_init f_p_Riffle_init fd_p_Riffle_init
  bi_p_Riffle_init : Binds K fd_p_Riffle_init ["self", "word"] []
  f_p_Riffle_came : Addr
  fd_p_Riffle_came : FuncData
  d_p_Riffle_came : C8.Fun K "came" "Riffle.came" s_p_Riffle_came f_p_Riffle_came fd_p_Riffle_came
  bi_p_Riffle_came : Binds K fd_p_Riffle_came ["self", "many"] []
  f_p_check_moves : Addr
  fd_p_check_moves : FuncData
  d_p_check_moves : C8.Def K mg "check_moves" s_p_check_moves f_p_check_moves fd_p_check_moves
  bi_p_check_moves : Binds K fd_p_check_moves ["moves"] []
  f_p_done_all : Addr
  fd_p_done_all : FuncData
  d_p_done_all : C8.Def K mg "done_all" s_p_done_all f_p_done_all fd_p_done_all
  bi_p_done_all : Binds K fd_p_done_all ["moves", "order"] []
  f_p_move_text : Addr
  fd_p_move_text : FuncData
  d_p_move_text : C8.Def K mg "move_text" s_p_move_text f_p_move_text fd_p_move_text
  bi_p_move_text : Binds K fd_p_move_text ["move"] []
  f_p_written : Addr
  fd_p_written : FuncData
  d_p_written : C8.Def K mg "written" s_p_written f_p_written fd_p_written
  bi_p_written : Binds K fd_p_written ["moves"] []
  f_p_number_in : Addr
  fd_p_number_in : FuncData
  d_p_number_in : C8.Def K mg "number_in" s_p_number_in f_p_number_in fd_p_number_in
  bi_p_number_in : Binds K fd_p_number_in ["text"] []
  f_p_move_in : Addr
  fd_p_move_in : FuncData
  d_p_move_in : C8.Def K mg "move_in" s_p_move_in f_p_move_in fd_p_move_in
  bi_p_move_in : Binds K fd_p_move_in ["text"] []
  f_p_read : Addr
  fd_p_read : FuncData
  d_p_read : C8.Def K mg "read" s_p_read f_p_read fd_p_read
  bi_p_read : Binds K fd_p_read ["text"] []
  f_l_cell_at : Addr
  fd_l_cell_at : FuncData
  d_l_cell_at : C8.Def K mg "_law_cell_at" s_l_cell_at f_l_cell_at fd_l_cell_at
  bi_l_cell_at : Binds K fd_l_cell_at ["_law_script", "_law_k"] []
  f_l_draw : Addr
  fd_l_draw : FuncData
  d_l_draw : C8.Def K mg "_law_draw" s_l_draw f_l_draw fd_l_draw
  bi_l_draw : Binds K fd_l_draw ["_law_cell", "_law_k", "_law_many_here"] []
  f_l_order : Addr
  fd_l_order : FuncData
  d_l_order : C8.Def K mg "_law_order" s_l_order f_l_order fd_l_order
  bi_l_order : Binds K fd_l_order ["_law_cell", "_law_many_here"] []
  f_l_many : Addr
  fd_l_many : FuncData
  d_l_many : C8.Def K mg "_law_many" s_l_many f_l_many fd_l_many
  bi_l_many : Binds K fd_l_many ["_law_cell", "_law_k"] []
  f_l_word : Addr
  fd_l_word : FuncData
  d_l_word : C8.Def K mg "_law_word" s_l_word f_l_word fd_l_word
  bi_l_word : Binds K fd_l_word ["_law_cell", "_law_many_here"] []
  f_l_riffled : Addr
  fd_l_riffled : FuncData
  d_l_riffled : C8.Def K mg "_law_riffled" s_l_riffled f_l_riffled fd_l_riffled
  bi_l_riffled : Binds K fd_l_riffled ["_law_order_here", "_law_word_here"] []
  f_l_dealt : Addr
  fd_l_dealt : FuncData
  d_l_dealt : C8.Def K mg "_law_dealt" s_l_dealt f_l_dealt fd_l_dealt
  bi_l_dealt : Binds K fd_l_dealt ["_law_order_here", "_law_piles"] []
  f_l_under : Addr
  fd_l_under : FuncData
  d_l_under : C8.Def K mg "_law_under" s_l_under f_l_under fd_l_under
  bi_l_under : Binds K fd_l_under ["_law_order_here"] []
  f_l_moved : Addr
  fd_l_moved : FuncData
  d_l_moved : C8.Def K mg "_law_moved" s_l_moved f_l_moved fd_l_moved
  bi_l_moved : Binds K fd_l_moved ["_law_order_here", "_law_told_here"] []
  f_l_told : Addr
  fd_l_told : FuncData
  d_l_told : C8.Def K mg "_law_told" s_l_told f_l_told fd_l_told
  bi_l_told : Binds K fd_l_told ["_law_cell", "_law_many_here"] []
  f_l_made : Addr
  fd_l_made : FuncData
  d_l_made : C8.Def K mg "_law_made" s_l_made f_l_made fd_l_made
  bi_l_made : Binds K fd_l_made ["_law_told_here"] []
  f_l_text : Addr
  fd_l_text : FuncData
  d_l_text : C8.Def K mg "_law_text" s_l_text f_l_text fd_l_text
  bi_l_text : Binds K fd_l_text ["_law_told_here"] []
  f_l_number : Addr
  fd_l_number : FuncData
  d_l_number : C8.Def K mg "_law_number" s_l_number f_l_number fd_l_number
  bi_l_number : Binds K fd_l_number ["_law_text_here", "_law_low", "_law_high"] []
  f_l_writes : Addr
  fd_l_writes : FuncData
  d_l_writes : C8.Def K mg "_law_writes" s_l_writes f_l_writes fd_l_writes
  bi_l_writes : Binds K fd_l_writes ["_law_text_here"] []
  f_l_refused : Addr
  fd_l_refused : FuncData
  d_l_refused : C8.Def K mg "_law_refused" s_l_refused f_l_refused fd_l_refused
  bi_l_refused : Binds K fd_l_refused ["_law_text_here"] []
  f_l_few : Addr
  fd_l_few : FuncData
  d_l_few : C8.Def K mg "_law_few" s_l_few f_l_few fd_l_few
  bi_l_few : Binds K fd_l_few [] []
  f_law : Addr
  fd_law : FuncData
  d_law : C8.Def K mg "law" s_law f_law fd_law
  bi_law : Binds K fd_law ["_law_script"] []
  mk_Cut : Mk K C.cCut f_p_Cut_init
  me_Cut_came : Meth K C.cCut "came" f_p_Cut_came
  me_Cut_done : Meth K C.cCut "done" f_p_Move_done
  mo_Turn : MkO K mg "Turn" C.cTurn
  me_Turn_came : Meth K C.cTurn "came" f_p_Turn_came
  me_Turn_done : Meth K C.cTurn "done" f_p_Move_done
  mk_Deal : Mk K C.cDeal f_p_Deal_init
  me_Deal_came : Meth K C.cDeal "came" f_p_Deal_came
  me_Deal_done : Meth K C.cDeal "done" f_p_Move_done
  mo_Under : MkO K mg "Under" C.cUnder
  me_Under_came : Meth K C.cUnder "came" f_p_Under_came
  me_Under_done : Meth K C.cUnder "done" f_p_Move_done
  mk_Weave : Mk K C.cWeave f_p_Weave_init
  me_Weave_came : Meth K C.cWeave "came" f_p_Weave_came
  me_Weave_done : Meth K C.cWeave "done" f_p_Move_done
  mk_Riffle : Mk K C.cRiffle f_p_Riffle_init
  me_Riffle_came : Meth K C.cRiffle "came" f_p_Riffle_came
  me_Riffle_done : Meth K C.cRiffle "done" f_p_Move_done
  F : CF K C
  av : C.av = avK
  pr : C.pr = prK
  X : XF K mg C
  b_ValueError : mg "ValueError" = none
  b_bool : mg "bool" = none
  b_int : mg "int" = none
  b_isinstance : mg "isinstance" = none
  b_len : mg "len" = none
  b_list : mg "list" = none
  b_range : mg "range" = none
  b_reversed : mg "reversed" = none
  b_set : mg "set" = none
  b_str : mg "str" = none
  c_FIGURES : ∃ u, mg "FIGURES" = some u ∧ RelV (.str "0123456789") u
  c_MOST : ∃ u, mg "MOST" = some u ∧ RelV (.int 60) u
section
variable {P : Program} {w : World} {K : PySem.W.Frag} {mg : Str → Option Value} {base : Heap} {C : Cl}
theorem ok_p_within (T : Txt K mg C) : C8.Cal P w K mg base 1 "within" (sp_p_within K C) [] :=
  C8.cal0 T.d_p_within T.bi_p_within .nil sc_p_within (fun vs H Q E h => by first | (obtain ⟨rfl, _⟩ := h; rfl) | (obtain ⟨_, rfl, _⟩ := h; rfl) | (obtain ⟨_, _, rfl, _⟩ := h; rfl) | (obtain ⟨_, _, _, rfl, _⟩ := h; rfl) | (obtain ⟨_, _, _, _, rfl, _⟩ := h; rfl) | (obtain ⟨_, _, _, _, _, rfl, _⟩ := h; rfl) | (obtain ⟨_, _, _, _, _, _, rfl, _⟩ := h; rfl) | (obtain ⟨_, _, _, _, _, _, _, rfl, _⟩ := h; rfl) | (obtain ⟨_, _, _, _, _, _, _, _, rfl, _⟩ := h; rfl)) (fun cdv A outer s H vs Q E hr h => ⟨t_p_within K C, (pss_one (ps_ret (pe_and (pe_callB call_isi (by rfl) T.b_isinstance (by decide +kernel) (pa_cons (pv 0) (pa_cons (pe_bltn (v := .ty "int") (by rfl) T.b_int (by decide +kernel) rfl) pa_nil))) (pe_and (pe_not (pe_callB call_isi (by rfl) T.b_isinstance (by decide +kernel) (pa_cons (pv 0) (pa_cons (pe_bltn (v := .ty "bool") (by rfl) T.b_bool (by decide +kernel) rfl) pa_nil)))) (pe_one (pe_chain op_le op_le (pv 1) (pv 0) (pv 2))))))), rd_p_within h⟩)
theorem ok_p_check_order (T : Txt K mg C) : C8.Cal P w K mg base 2 "check_order" (sp_p_check_order K C) [] :=
  C8.cal0 T.d_p_check_order T.bi_p_check_order .nil sc_p_check_order (fun vs H Q E h => by first | (obtain ⟨rfl, _⟩ := h; rfl) | (obtain ⟨_, rfl, _⟩ := h; rfl) | (obtain ⟨_, _, rfl, _⟩ := h; rfl) | (obtain ⟨_, _, _, rfl, _⟩ := h; rfl) | (obtain ⟨_, _, _, _, rfl, _⟩ := h; rfl) | (obtain ⟨_, _, _, _, _, rfl, _⟩ := h; rfl) | (obtain ⟨_, _, _, _, _, _, rfl, _⟩ := h; rfl) | (obtain ⟨_, _, _, _, _, _, _, rfl, _⟩ := h; rfl) | (obtain ⟨_, _, _, _, _, _, _, _, rfl, _⟩ := h; rfl)) (fun cdv A outer s H vs Q E hr h => ⟨t_p_check_order K C, (pss_cons (ps_if (PW.pt (pw_or (pt_not (pt_val (pe_callB call_isi (by rfl) T.b_isinstance (by decide +kernel) (pa_cons (pv 0) (pa_cons (pe_bltn (v := .ty "list") (by rfl) T.b_list (by decide +kernel) rfl) pa_nil))))) (pw_or1 (pt_not (pt_chain op_le op_le pe_int (pe_callB call_lenQ (by rfl) T.b_len (by decide +kernel) (pa_cons (pv 0) pa_nil)) (C8.pe_gc rfl T.c_MOST)))))) (pss_one ps_never) pss_nil) (pss_cons (ps_for PassesOwn.never rfl (pi_list (pv 0)) (pg_name (i := 1) sc_p_check_order.nd rfl (Or.inl rfl)) (pss_one (ps_if (pt_not (pt_val (C8.pe_c (ok_p_within T) hr (by decide) rfl (pa_cons (pv 1) (pa_cons pe_int (pa_cons (pe_op op_sub (pe_callB call_lenQ (by rfl) T.b_len (by decide +kernel) (pa_cons (pv 0) pa_nil)) pe_int) pa_nil)))))) (pss_one ps_never) pss_nil))) (pss_one (ps_if (pt_cmpR op_lt (RZ.pe_lenSetI (by rfl) T.b_len (by rfl) T.b_set (pv 0)) (pe_callB call_lenQ (by rfl) T.b_len (by decide +kernel) (pa_cons (pv 0) pa_nil)) (nomark _)) (pss_one ps_never) pss_nil)))), rd_p_check_order h⟩)
theorem ok_p_Cut_came (T : Txt K mg C) : C8.Met P w K mg base 1 C.cCut "came" (sp_came K C .cut) [] :=
  C8.met0 (T.F.cls .cut (by rw [T.av]; simp [avK])) T.me_Cut_came T.d_p_Cut_came T.bi_p_Cut_came sc_p_Cut_came (fun vs H Q E h => by first | (obtain ⟨rfl, _⟩ := h; rfl) | (obtain ⟨_, rfl, _⟩ := h; rfl) | (obtain ⟨_, _, rfl, _⟩ := h; rfl) | (obtain ⟨_, _, _, rfl, _⟩ := h; rfl) | (obtain ⟨_, _, _, _, rfl, _⟩ := h; rfl) | (obtain ⟨_, _, _, _, _, rfl, _⟩ := h; rfl) | (obtain ⟨_, _, _, _, _, _, rfl, _⟩ := h; rfl) | (obtain ⟨_, _, _, _, _, _, _, rfl, _⟩ := h; rfl) | (obtain ⟨_, _, _, _, _, _, _, _, rfl, _⟩ := h; rfl)) (fun cdv A outer s H vs Q E hr h => ⟨t_p_Cut_came K C, (pss_cons (ps_if (pt_cmpR op_gt (pe_fld (pv 0) rfl) (pv 1) (nomark _)) (pss_one ps_never) pss_nil) (pss_one (ps_ret (pe_op op_cat (pe_listRg rfl (by rfl) T.b_list (prg_2 (by rfl) T.b_range (pe_fld (pv 0) rfl) (pv 1))) (pe_listRg rfl (by rfl) T.b_list (prg_1 (by rfl) T.b_range (pe_fld (pv 0) rfl))))))), rd_p_Cut_came T.F h⟩)
theorem ok_p_Turn_came (T : Txt K mg C) : C8.Met P w K mg base 1 C.cTurn "came" (sp_came K C .turn) [] :=
  C8.met0 (T.F.cls .turn (by rw [T.av]; simp [avK])) T.me_Turn_came T.d_p_Turn_came T.bi_p_Turn_came sc_p_Turn_came (fun vs H Q E h => by first | (obtain ⟨rfl, _⟩ := h; rfl) | (obtain ⟨_, rfl, _⟩ := h; rfl) | (obtain ⟨_, _, rfl, _⟩ := h; rfl) | (obtain ⟨_, _, _, rfl, _⟩ := h; rfl) | (obtain ⟨_, _, _, _, rfl, _⟩ := h; rfl) | (obtain ⟨_, _, _, _, _, rfl, _⟩ := h; rfl) | (obtain ⟨_, _, _, _, _, _, rfl, _⟩ := h; rfl) | (obtain ⟨_, _, _, _, _, _, _, rfl, _⟩ := h; rfl) | (obtain ⟨_, _, _, _, _, _, _, _, rfl, _⟩ := h; rfl)) (fun cdv A outer s H vs Q E hr h => ⟨t_p_Turn_came K C, (pss_one (ps_ret (pe_revL (pe_listRg rfl (by rfl) T.b_list (prg_1 (by rfl) T.b_range (pv 1)))))), rd_p_Turn_came h⟩)
theorem ok_p_Deal_came (T : Txt K mg C) : C8.Met P w K mg base 1 C.cDeal "came" (sp_came K C .deal) [] :=
  C8.met0 (T.F.cls .deal (by rw [T.av]; simp [avK])) T.me_Deal_came T.d_p_Deal_came T.bi_p_Deal_came sc_p_Deal_came (fun vs H Q E h => by first | (obtain ⟨rfl, _⟩ := h; rfl) | (obtain ⟨_, rfl, _⟩ := h; rfl) | (obtain ⟨_, _, rfl, _⟩ := h; rfl) | (obtain ⟨_, _, _, rfl, _⟩ := h; rfl) | (obtain ⟨_, _, _, _, rfl, _⟩ := h; rfl) | (obtain ⟨_, _, _, _, _, rfl, _⟩ := h; rfl) | (obtain ⟨_, _, _, _, _, _, rfl, _⟩ := h; rfl) | (obtain ⟨_, _, _, _, _, _, _, rfl, _⟩ := h; rfl) | (obtain ⟨_, _, _, _, _, _, _, _, rfl, _⟩ := h; rfl)) (fun cdv A outer s H vs Q E hr h => ⟨t_p_Deal_came K C, (pss_cons (ps_set (i := 2) sc_p_Deal_came.nd rfl (Or.inl rfl) (pe_lst pa_nil)) (pss_cons (ps_for PassesOwn.never rfl (pi_revR (by rfl) T.b_reversed (prg_1 (by rfl) T.b_range (pe_fld (pv 0) rfl))) (pg_name (i := 3) sc_p_Deal_came.nd rfl (Or.inl rfl)) (pss_one (ps_set (i := 2) sc_p_Deal_came.nd rfl (Or.inl rfl) (pe_op op_cat (pv 2) (pe_revL (pe_listRg3 rfl (by rfl) T.b_list (prg_3 (by rfl) T.b_range (pv 3) (pv 1) (pe_fld (pv 0) rfl)))))))) (pss_one (ps_ret (pv 2))))), rd_p_Deal_came T.F h⟩)
theorem ok_p_Under_came (T : Txt K mg C) : C8.Met P w K mg base 1 C.cUnder "came" (sp_came K C .under) [] :=
  C8.met0 (T.F.cls .under (by rw [T.av]; simp [avK])) T.me_Under_came T.d_p_Under_came T.bi_p_Under_came sc_p_Under_came (fun vs H Q E h => by first | (obtain ⟨rfl, _⟩ := h; rfl) | (obtain ⟨_, rfl, _⟩ := h; rfl) | (obtain ⟨_, _, rfl, _⟩ := h; rfl) | (obtain ⟨_, _, _, rfl, _⟩ := h; rfl) | (obtain ⟨_, _, _, _, rfl, _⟩ := h; rfl) | (obtain ⟨_, _, _, _, _, rfl, _⟩ := h; rfl) | (obtain ⟨_, _, _, _, _, _, rfl, _⟩ := h; rfl) | (obtain ⟨_, _, _, _, _, _, _, rfl, _⟩ := h; rfl) | (obtain ⟨_, _, _, _, _, _, _, _, rfl, _⟩ := h; rfl)) (fun cdv A outer s H vs Q E hr h => ⟨t_p_Under_came K C, (pss_cons (ps_set (i := 2) sc_p_Under_came.nd rfl (Or.inl rfl) (pe_listRg rfl (by rfl) T.b_list (prg_1 (by rfl) T.b_range (pv 1)))) (pss_cons (ps_set (i := 3) sc_p_Under_came.nd rfl (Or.inl rfl) (pe_lst pa_nil)) (pss_cons (ps_while PassesOwn.never (pt_cmpR op_gt (pe_callB call_lenQ (by rfl) T.b_len (by decide +kernel) (pa_cons (pv 2) pa_nil)) pe_int (nomark _)) (pss_cons (ps_set (i := 3) sc_p_Under_came.nd rfl (Or.inl rfl) (pe_op op_cat (pe_lst (pa_cons (pe_ix ix_list (pv 2) pe_int (fun _ _ => rfl)) pa_nil)) (pv 3))) (pss_one (ps_set (i := 2) sc_p_Under_came.nd rfl (Or.inl rfl) (pe_op op_cat (pe_slice sl_list (pv 2) (po_some pe_int) po_none) (pe_slice sl_list (pv 2) (po_some pe_int) (po_some pe_int))))))) (pss_one (ps_ret (pv 3)))))), rd_p_Under_came h⟩)
theorem ok_p_Weave_came (T : Txt K mg C) : C8.Met P w K mg base 1 C.cWeave "came" (sp_came K C .weave) [] :=
  C8.met0 (T.F.cls .weave (by rw [T.av]; simp [avK])) T.me_Weave_came T.d_p_Weave_came T.bi_p_Weave_came sc_p_Weave_came (fun vs H Q E h => by first | (obtain ⟨rfl, _⟩ := h; rfl) | (obtain ⟨_, rfl, _⟩ := h; rfl) | (obtain ⟨_, _, rfl, _⟩ := h; rfl) | (obtain ⟨_, _, _, rfl, _⟩ := h; rfl) | (obtain ⟨_, _, _, _, rfl, _⟩ := h; rfl) | (obtain ⟨_, _, _, _, _, rfl, _⟩ := h; rfl) | (obtain ⟨_, _, _, _, _, _, rfl, _⟩ := h; rfl) | (obtain ⟨_, _, _, _, _, _, _, rfl, _⟩ := h; rfl) | (obtain ⟨_, _, _, _, _, _, _, _, rfl, _⟩ := h; rfl)) (fun cdv A outer s H vs Q E hr h => ⟨t_p_Weave_came K C, (pss_cons (ps_if (pt_cmpR op_eq (pe_op op_and (pv 1) pe_int) pe_int (nomark _)) (pss_one ps_never) pss_nil) (pss_cons (ps_set (i := 2) sc_p_Weave_came.nd rfl (Or.inl rfl) (pe_lst pa_nil)) (pss_cons (ps_for PassesOwn.never rfl (pi_range1 rfl T.b_range (pa_cons (pe_op op_fdiv (pv 1) pe_int) pa_nil)) (pg_name (i := 3) sc_p_Weave_came.nd rfl (Or.inl rfl)) (pss_cons (ps_set (i := 4) sc_p_Weave_came.nd rfl (Or.inl rfl) (pe_lst (pa_cons (pv 3) (pa_cons (pe_op op_add (pe_op op_fdiv (pv 1) pe_int) (pv 3)) pa_nil)))) (pss_cons (ps_if (pt_cmpR op_eq (pe_fld (pv 0) rfl) pe_int (nomark _)) (pss_one (ps_set (i := 4) sc_p_Weave_came.nd rfl (Or.inl rfl) (pe_revL (pv 4)))) pss_nil) (pss_one (ps_set (i := 2) sc_p_Weave_came.nd rfl (Or.inl rfl) (pe_op op_cat (pv 2) (pv 4))))))) (pss_one (ps_ret (pv 2)))))), rd_p_Weave_came T.F h⟩)
theorem ok_p_Riffle_came (T : Txt K mg C) : C8.Met P w K mg base 1 C.cRiffle "came" (sp_came K C .riffle) [] :=
  C8.met0 (T.F.cls .riffle (by rw [T.av]; simp [avK])) T.me_Riffle_came T.d_p_Riffle_came T.bi_p_Riffle_came sc_p_Riffle_came (fun vs H Q E h => by first | (obtain ⟨rfl, _⟩ := h; rfl) | (obtain ⟨_, rfl, _⟩ := h; rfl) | (obtain ⟨_, _, rfl, _⟩ := h; rfl) | (obtain ⟨_, _, _, rfl, _⟩ := h; rfl) | (obtain ⟨_, _, _, _, rfl, _⟩ := h; rfl) | (obtain ⟨_, _, _, _, _, rfl, _⟩ := h; rfl) | (obtain ⟨_, _, _, _, _, _, rfl, _⟩ := h; rfl) | (obtain ⟨_, _, _, _, _, _, _, rfl, _⟩ := h; rfl) | (obtain ⟨_, _, _, _, _, _, _, _, rfl, _⟩ := h; rfl)) (fun cdv A outer s H vs Q E hr h => ⟨t_p_Riffle_came K C, (pss_cons (ps_if (pt_cmpR op_ne (pe_callB call_lenS (by rfl) T.b_len (by decide +kernel) (pa_cons (pe_fld (pv 0) rfl) pa_nil)) (pv 1) (nomark _)) (pss_one ps_never) pss_nil) (pss_cons (ps_set (i := 2) sc_p_Riffle_came.nd rfl (Or.inl rfl) pe_int) (pss_cons (ps_set (i := 3) sc_p_Riffle_came.nd rfl (Or.inl rfl) (pe_bm PySem.F.plainAttrs_str PySem.F.slot_str_count PySem.F.type_str_count mt_countQ (pe_fld (pv 0) rfl) (pa_cons pe_str pa_nil))) (pss_cons (ps_set (i := 4) sc_p_Riffle_came.nd rfl (Or.inl rfl) (pe_lst pa_nil)) (pss_cons (ps_for PassesOwn.never rfl (pi_str (pe_fld (pv 0) rfl)) (pg_name (i := 5) sc_p_Riffle_came.nd rfl (Or.inl rfl)) (pss_one (ps_if (pt_cmpR op_eq (pv 5) pe_str (nomark _)) (pss_cons (ps_expr (pe_bm PySem.F.plainAttrs_list PySem.F.slot_list_append PySem.F.type_list_append mt_append (pv 4) (pa_cons (pv 2) pa_nil))) (pss_one (ps_aug (i := 2) sc_p_Riffle_came.nd rfl (Or.inl rfl) pe_int ip_add))) (pss_cons (ps_expr (pe_bm PySem.F.plainAttrs_list PySem.F.slot_list_append PySem.F.type_list_append mt_append (pv 4) (pa_cons (pv 3) pa_nil))) (pss_one (ps_aug (i := 3) sc_p_Riffle_came.nd rfl (Or.inl rfl) pe_int ip_add)))))) (pss_one (ps_ret (pv 4)))))))), rd_p_Riffle_came T.F h⟩)
theorem met_came (T : Txt K mg C) {j : Nat} (hj : 1 ≤ j) : ∀ κ, C.av κ → ∃ k, k ≤ j ∧ C8.Met P w K mg base k (C.of κ) "came" (sp_came K C κ) [] := fun κ h => match κ, h with
  | .cut, _ => ⟨1, Nat.le_trans (by decide) hj, (ok_p_Cut_came T)⟩
  | .turn, _ => ⟨1, Nat.le_trans (by decide) hj, (ok_p_Turn_came T)⟩
  | .deal, _ => ⟨1, Nat.le_trans (by decide) hj, (ok_p_Deal_came T)⟩
  | .under, _ => ⟨1, Nat.le_trans (by decide) hj, (ok_p_Under_came T)⟩
  | .weave, _ => ⟨1, Nat.le_trans (by decide) hj, (ok_p_Weave_came T)⟩
  | .riffle, _ => ⟨1, Nat.le_trans (by decide) hj, (ok_p_Riffle_came T)⟩
theorem ok_p_Move_done (T : Txt K mg C) (κ : Kd) (hav : C.av κ) (me : Meth K (C.of κ) "done" T.f_p_Move_done) : C8.Met P w K mg base 3 (C.of κ) "done" (sp_done K C κ) [] :=
  C8.met0 (T.F.cls κ hav) me T.d_p_Move_done T.bi_p_Move_done sc_p_Move_done (fun vs H Q E h => by first | (obtain ⟨rfl, _⟩ := h; rfl) | (obtain ⟨_, rfl, _⟩ := h; rfl) | (obtain ⟨_, _, rfl, _⟩ := h; rfl) | (obtain ⟨_, _, _, rfl, _⟩ := h; rfl) | (obtain ⟨_, _, _, _, rfl, _⟩ := h; rfl) | (obtain ⟨_, _, _, _, _, rfl, _⟩ := h; rfl) | (obtain ⟨_, _, _, _, _, _, rfl, _⟩ := h; rfl) | (obtain ⟨_, _, _, _, _, _, _, rfl, _⟩ := h; rfl) | (obtain ⟨_, _, _, _, _, _, _, _, rfl, _⟩ := h; rfl)) (fun cdv A outer s H vs Q E hr h => ⟨t_p_Move_done K C, (pss_cons (ps_expr (C8.pe_c (ok_p_check_order T) hr (by decide) rfl (pa_cons (pv 1) pa_nil))) (pss_one (ps_ret (pe_lc (own := [("place", 2)]) (g := gName 2) (tt := tYes) rfl sc_p_Move_done.nd (pi_list (pe_mtA (met_came T (by decide)) hr (pv 0) (pa_cons (pe_callB call_lenQ (by rfl) T.b_len (by decide +kernel) (pa_cons (pv 1) pa_nil)) pa_nil))) (blkOk_by (own := [("place", 2)]) (N := ["self", "order", "place"]) (sc := defScope s_p_Move_done) (by decide +kernel)) (fun _ _ _ _ _ => pg_name (i := 2) sc_p_Move_done.nd rfl (Or.inl rfl)) (fun _ _ _ _ _ => pts_nil) (fun _ _ _ _ _ => (pe_ix ix_list (pv 1) (pv 2) (fun _ _ => rfl))))))), rd_p_Move_done T.F κ h⟩)
theorem okx_p_Cut_init (T : Txt K mg C) : MakN P w K mg base (L2N.CX P w) 2 "Cut" C.cCut (sp_p_Cut_initX K C) :=
  makN T.mk_Cut T.g_Cut T.d_p_Cut_init T.bi_p_Cut_init sc_p_Cut_init (fun vs H Q E h => by first | (obtain ⟨rfl, _⟩ := h; rfl) | (obtain ⟨_, rfl, _⟩ := h; rfl) | (obtain ⟨_, _, rfl, _⟩ := h; rfl) | (obtain ⟨_, _, _, rfl, _⟩ := h; rfl) | (obtain ⟨_, _, _, _, rfl, _⟩ := h; rfl) | (obtain ⟨_, _, _, _, _, rfl, _⟩ := h; rfl) | (obtain ⟨_, _, _, _, _, _, rfl, _⟩ := h; rfl) | (obtain ⟨_, _, _, _, _, _, _, rfl, _⟩ := h; rfl) | (obtain ⟨_, _, _, _, _, _, _, _, rfl, _⟩ := h; rfl)) (fun cdv A outer s H vs Q E hr h => ⟨t_x_p_Cut_init K C E, (pss_cons (ps_if (pt_not (pt_val (C8.pe_c (ok_p_within T) hr (by decide) rfl (pa_cons (pv 1) (pa_cons pe_int (pa_cons (C8.pe_gc rfl T.c_MOST) pa_nil)))))) (pss_one (L2N.ps_raise rfl (L2N.takes_of rfl rfl rfl rfl) (L2N.pmk_own PySem.F.excBase_ValueError T.X.bm.e T.X.bm.g T.X.bm.k (raises_own T.X.bm.b T.X.bm.t) (by rfl)))) pss_nil) (pss_one (ps_fld (pv 0) (pv 1) rfl))), rd_x_p_Cut_init T.F (by rw [T.av]; simp [avK]) h⟩)
theorem ok_p_Cut_init (T : Txt K mg C) : C8.Mak P w K mg base 2 "Cut" C.cCut (sp_p_Cut_init K C) [] :=
  C8.mak0 T.mk_Cut T.g_Cut T.d_p_Cut_init T.bi_p_Cut_init .nil sc_p_Cut_init (fun vs H Q E h => by first | (obtain ⟨rfl, _⟩ := h; rfl) | (obtain ⟨_, rfl, _⟩ := h; rfl) | (obtain ⟨_, _, rfl, _⟩ := h; rfl) | (obtain ⟨_, _, _, rfl, _⟩ := h; rfl) | (obtain ⟨_, _, _, _, rfl, _⟩ := h; rfl) | (obtain ⟨_, _, _, _, _, rfl, _⟩ := h; rfl) | (obtain ⟨_, _, _, _, _, _, rfl, _⟩ := h; rfl) | (obtain ⟨_, _, _, _, _, _, _, rfl, _⟩ := h; rfl) | (obtain ⟨_, _, _, _, _, _, _, _, rfl, _⟩ := h; rfl)) (fun cdv A outer s H vs Q E hr h => ⟨t_p_Cut_init K C, (pss_cons (ps_if (pt_not (pt_val (C8.pe_c (ok_p_within T) hr (by decide) rfl (pa_cons (pv 1) (pa_cons pe_int (pa_cons (C8.pe_gc rfl T.c_MOST) pa_nil)))))) (pss_one ps_never) pss_nil) (pss_one (ps_fld (pv 0) (pv 1) rfl))), rd_p_Cut_init T.F (by rw [T.av]; simp [avK]) h⟩)
theorem okx_p_Deal_init (T : Txt K mg C) : MakN P w K mg base (L2N.CX P w) 2 "Deal" C.cDeal (sp_p_Deal_initX K C) :=
  makN T.mk_Deal T.g_Deal T.d_p_Deal_init T.bi_p_Deal_init sc_p_Deal_init (fun vs H Q E h => by first | (obtain ⟨rfl, _⟩ := h; rfl) | (obtain ⟨_, rfl, _⟩ := h; rfl) | (obtain ⟨_, _, rfl, _⟩ := h; rfl) | (obtain ⟨_, _, _, rfl, _⟩ := h; rfl) | (obtain ⟨_, _, _, _, rfl, _⟩ := h; rfl) | (obtain ⟨_, _, _, _, _, rfl, _⟩ := h; rfl) | (obtain ⟨_, _, _, _, _, _, rfl, _⟩ := h; rfl) | (obtain ⟨_, _, _, _, _, _, _, rfl, _⟩ := h; rfl) | (obtain ⟨_, _, _, _, _, _, _, _, rfl, _⟩ := h; rfl)) (fun cdv A outer s H vs Q E hr h => ⟨t_x_p_Deal_init K C E, (pss_cons (ps_if (pt_not (pt_val (C8.pe_c (ok_p_within T) hr (by decide) rfl (pa_cons (pv 1) (pa_cons pe_int (pa_cons (C8.pe_gc rfl T.c_MOST) pa_nil)))))) (pss_one (L2N.ps_raise rfl (L2N.takes_of rfl rfl rfl rfl) (L2N.pmk_own PySem.F.excBase_ValueError T.X.bm.e T.X.bm.g T.X.bm.k (raises_own T.X.bm.b T.X.bm.t) (by rfl)))) pss_nil) (pss_one (ps_fld (pv 0) (pv 1) rfl))), rd_x_p_Deal_init T.F (by rw [T.av]; simp [avK]) h⟩)
theorem ok_p_Deal_init (T : Txt K mg C) : C8.Mak P w K mg base 2 "Deal" C.cDeal (sp_p_Deal_init K C) [] :=
  C8.mak0 T.mk_Deal T.g_Deal T.d_p_Deal_init T.bi_p_Deal_init .nil sc_p_Deal_init (fun vs H Q E h => by first | (obtain ⟨rfl, _⟩ := h; rfl) | (obtain ⟨_, rfl, _⟩ := h; rfl) | (obtain ⟨_, _, rfl, _⟩ := h; rfl) | (obtain ⟨_, _, _, rfl, _⟩ := h; rfl) | (obtain ⟨_, _, _, _, rfl, _⟩ := h; rfl) | (obtain ⟨_, _, _, _, _, rfl, _⟩ := h; rfl) | (obtain ⟨_, _, _, _, _, _, rfl, _⟩ := h; rfl) | (obtain ⟨_, _, _, _, _, _, _, rfl, _⟩ := h; rfl) | (obtain ⟨_, _, _, _, _, _, _, _, rfl, _⟩ := h; rfl)) (fun cdv A outer s H vs Q E hr h => ⟨t_p_Deal_init K C, (pss_cons (ps_if (pt_not (pt_val (C8.pe_c (ok_p_within T) hr (by decide) rfl (pa_cons (pv 1) (pa_cons pe_int (pa_cons (C8.pe_gc rfl T.c_MOST) pa_nil)))))) (pss_one ps_never) pss_nil) (pss_one (ps_fld (pv 0) (pv 1) rfl))), rd_p_Deal_init T.F (by rw [T.av]; simp [avK]) h⟩)
theorem okx_p_Weave_init (T : Txt K mg C) : MakN P w K mg base (L2N.CX P w) 2 "Weave" C.cWeave (sp_p_Weave_initX K C) :=
  makN T.mk_Weave T.g_Weave T.d_p_Weave_init T.bi_p_Weave_init sc_p_Weave_init (fun vs H Q E h => by first | (obtain ⟨rfl, _⟩ := h; rfl) | (obtain ⟨_, rfl, _⟩ := h; rfl) | (obtain ⟨_, _, rfl, _⟩ := h; rfl) | (obtain ⟨_, _, _, rfl, _⟩ := h; rfl) | (obtain ⟨_, _, _, _, rfl, _⟩ := h; rfl) | (obtain ⟨_, _, _, _, _, rfl, _⟩ := h; rfl) | (obtain ⟨_, _, _, _, _, _, rfl, _⟩ := h; rfl) | (obtain ⟨_, _, _, _, _, _, _, rfl, _⟩ := h; rfl) | (obtain ⟨_, _, _, _, _, _, _, _, rfl, _⟩ := h; rfl)) (fun cdv A outer s H vs Q E hr h => ⟨t_x_p_Weave_init K C E, (pss_cons (ps_if (pt_not (pt_val (C8.pe_c (ok_p_within T) hr (by decide) rfl (pa_cons (pv 1) (pa_cons pe_int (pa_cons pe_int pa_nil)))))) (pss_one (L2N.ps_raise rfl (L2N.takes_of rfl rfl rfl rfl) (L2N.pmk_own PySem.F.excBase_ValueError T.X.bm.e T.X.bm.g T.X.bm.k (raises_own T.X.bm.b T.X.bm.t) (by rfl)))) pss_nil) (pss_one (ps_fld (pv 0) (pv 1) rfl))), rd_x_p_Weave_init T.F (by rw [T.av]; simp [avK]) h⟩)
theorem ok_p_Weave_init (T : Txt K mg C) : C8.Mak P w K mg base 2 "Weave" C.cWeave (sp_p_Weave_init K C) [] :=
  C8.mak0 T.mk_Weave T.g_Weave T.d_p_Weave_init T.bi_p_Weave_init .nil sc_p_Weave_init (fun vs H Q E h => by first | (obtain ⟨rfl, _⟩ := h; rfl) | (obtain ⟨_, rfl, _⟩ := h; rfl) | (obtain ⟨_, _, rfl, _⟩ := h; rfl) | (obtain ⟨_, _, _, rfl, _⟩ := h; rfl) | (obtain ⟨_, _, _, _, rfl, _⟩ := h; rfl) | (obtain ⟨_, _, _, _, _, rfl, _⟩ := h; rfl) | (obtain ⟨_, _, _, _, _, _, rfl, _⟩ := h; rfl) | (obtain ⟨_, _, _, _, _, _, _, rfl, _⟩ := h; rfl) | (obtain ⟨_, _, _, _, _, _, _, _, rfl, _⟩ := h; rfl)) (fun cdv A outer s H vs Q E hr h => ⟨t_p_Weave_init K C, (pss_cons (ps_if (pt_not (pt_val (C8.pe_c (ok_p_within T) hr (by decide) rfl (pa_cons (pv 1) (pa_cons pe_int (pa_cons pe_int pa_nil)))))) (pss_one ps_never) pss_nil) (pss_one (ps_fld (pv 0) (pv 1) rfl))), rd_p_Weave_init T.F (by rw [T.av]; simp [avK]) h⟩)
theorem okx_p_Riffle_init (T : Txt K mg C) : MakN P w K mg base (L2N.CX P w) 1 "Riffle" C.cRiffle (sp_p_Riffle_initX K C) :=
  makN T.mk_Riffle T.g_Riffle T.d_p_Riffle_init T.bi_p_Riffle_init sc_p_Riffle_init (fun vs H Q E h => by first | (obtain ⟨rfl, _⟩ := h; rfl) | (obtain ⟨_, rfl, _⟩ := h; rfl) | (obtain ⟨_, _, rfl, _⟩ := h; rfl) | (obtain ⟨_, _, _, rfl, _⟩ := h; rfl) | (obtain ⟨_, _, _, _, rfl, _⟩ := h; rfl) | (obtain ⟨_, _, _, _, _, rfl, _⟩ := h; rfl) | (obtain ⟨_, _, _, _, _, _, rfl, _⟩ := h; rfl) | (obtain ⟨_, _, _, _, _, _, _, rfl, _⟩ := h; rfl) | (obtain ⟨_, _, _, _, _, _, _, _, rfl, _⟩ := h; rfl)) (fun cdv A outer s H vs Q E hr h => ⟨t_x_p_Riffle_init K C E, (pss_cons (ps_if (PW.pt (pw_or (pt_not (pt_val (pe_callB call_isi (by rfl) T.b_isinstance (by decide +kernel) (pa_cons (pv 1) (pa_cons (pe_bltn (v := .ty "str") (by rfl) T.b_str (by decide +kernel) rfl) pa_nil))))) (pw_or (pt_not (pt_chain op_le op_le pe_int (pe_callB call_lenS (by rfl) T.b_len (by decide +kernel) (pa_cons (pv 1) pa_nil)) (C8.pe_gc rfl T.c_MOST))) (pw_or1 (pt_cmpR op_ne (pe_bm PySem.F.plainAttrs_str PySem.F.slot_str_strip PySem.F.type_str_strip mt_stripQ (pv 1) (pa_cons pe_str pa_nil)) pe_str (nomark _)))))) (pss_one (L2N.ps_raise rfl (L2N.takes_of rfl rfl rfl rfl) (L2N.pmk_own PySem.F.excBase_ValueError T.X.bm.e T.X.bm.g T.X.bm.k (raises_own T.X.bm.b T.X.bm.t) (by rfl)))) pss_nil) (pss_one (ps_fld (pv 0) (pv 1) rfl))), rd_x_p_Riffle_init T.F (by rw [T.av]; simp [avK]) h⟩)
theorem ok_p_Riffle_init (T : Txt K mg C) : C8.Mak P w K mg base 1 "Riffle" C.cRiffle (sp_p_Riffle_init K C) [] :=
  C8.mak0 T.mk_Riffle T.g_Riffle T.d_p_Riffle_init T.bi_p_Riffle_init .nil sc_p_Riffle_init (fun vs H Q E h => by first | (obtain ⟨rfl, _⟩ := h; rfl) | (obtain ⟨_, rfl, _⟩ := h; rfl) | (obtain ⟨_, _, rfl, _⟩ := h; rfl) | (obtain ⟨_, _, _, rfl, _⟩ := h; rfl) | (obtain ⟨_, _, _, _, rfl, _⟩ := h; rfl) | (obtain ⟨_, _, _, _, _, rfl, _⟩ := h; rfl) | (obtain ⟨_, _, _, _, _, _, rfl, _⟩ := h; rfl) | (obtain ⟨_, _, _, _, _, _, _, rfl, _⟩ := h; rfl) | (obtain ⟨_, _, _, _, _, _, _, _, rfl, _⟩ := h; rfl)) (fun cdv A outer s H vs Q E hr h => ⟨t_p_Riffle_init K C, (pss_cons (ps_if (PW.pt (pw_or (pt_not (pt_val (pe_callB call_isi (by rfl) T.b_isinstance (by decide +kernel) (pa_cons (pv 1) (pa_cons (pe_bltn (v := .ty "str") (by rfl) T.b_str (by decide +kernel) rfl) pa_nil))))) (pw_or (pt_not (pt_chain op_le op_le pe_int (pe_callB call_lenS (by rfl) T.b_len (by decide +kernel) (pa_cons (pv 1) pa_nil)) (C8.pe_gc rfl T.c_MOST))) (pw_or1 (pt_cmpR op_ne (pe_bm PySem.F.plainAttrs_str PySem.F.slot_str_strip PySem.F.type_str_strip mt_stripQ (pv 1) (pa_cons pe_str pa_nil)) pe_str (nomark _)))))) (pss_one ps_never) pss_nil) (pss_one (ps_fld (pv 0) (pv 1) rfl))), rd_p_Riffle_init T.F (by rw [T.av]; simp [avK]) h⟩)
theorem ok_p_check_moves (T : Txt K mg C) : C8.Cal P w K mg base 1 "check_moves" (sp_p_check_moves K C) [] :=
  C8.cal0 T.d_p_check_moves T.bi_p_check_moves .nil sc_p_check_moves (fun vs H Q E h => by first | (obtain ⟨rfl, _⟩ := h; rfl) | (obtain ⟨_, rfl, _⟩ := h; rfl) | (obtain ⟨_, _, rfl, _⟩ := h; rfl) | (obtain ⟨_, _, _, rfl, _⟩ := h; rfl) | (obtain ⟨_, _, _, _, rfl, _⟩ := h; rfl) | (obtain ⟨_, _, _, _, _, rfl, _⟩ := h; rfl) | (obtain ⟨_, _, _, _, _, _, rfl, _⟩ := h; rfl) | (obtain ⟨_, _, _, _, _, _, _, rfl, _⟩ := h; rfl) | (obtain ⟨_, _, _, _, _, _, _, _, rfl, _⟩ := h; rfl)) (fun cdv A outer s H vs Q E hr h => ⟨t_p_check_moves K C, (pss_cons (ps_if (pt_not (pt_val (pe_callB call_isi (by rfl) T.b_isinstance (by decide +kernel) (pa_cons (pv 0) (pa_cons (pe_bltn (v := .ty "list") (by rfl) T.b_list (by decide +kernel) rfl) pa_nil))))) (pss_one ps_never) pss_nil) (pss_one (ps_for PassesOwn.never rfl (pi_list (pv 0)) (pg_name (i := 1) sc_p_check_moves.nd rfl (Or.inl rfl)) (pss_one (ps_if (pt_not (pt_val (pe_callB call_isi (by rfl) T.b_isinstance (by decide +kernel) (pa_cons (pv 1) (pa_cons (pe_glob rfl T.g_Move rfl) pa_nil))))) (pss_one ps_never) pss_nil))))), rd_p_check_moves T.F h⟩)
theorem met_done (T : Txt K mg C) {j : Nat} (hj : 3 ≤ j) : ∀ κ, C.av κ → ∃ k, k ≤ j ∧ C8.Met P w K mg base k (C.of κ) "done" (sp_done K C κ) [] := fun κ h => match κ, h with
  | .cut, _ => ⟨3, Nat.le_trans (by decide) hj, (ok_p_Move_done T .cut (by rw [T.av]; simp [avK]) T.me_Cut_done)⟩
  | .turn, _ => ⟨3, Nat.le_trans (by decide) hj, (ok_p_Move_done T .turn (by rw [T.av]; simp [avK]) T.me_Turn_done)⟩
  | .deal, _ => ⟨3, Nat.le_trans (by decide) hj, (ok_p_Move_done T .deal (by rw [T.av]; simp [avK]) T.me_Deal_done)⟩
  | .under, _ => ⟨3, Nat.le_trans (by decide) hj, (ok_p_Move_done T .under (by rw [T.av]; simp [avK]) T.me_Under_done)⟩
  | .weave, _ => ⟨3, Nat.le_trans (by decide) hj, (ok_p_Move_done T .weave (by rw [T.av]; simp [avK]) T.me_Weave_done)⟩
  | .riffle, _ => ⟨3, Nat.le_trans (by decide) hj, (ok_p_Move_done T .riffle (by rw [T.av]; simp [avK]) T.me_Riffle_done)⟩
theorem ok_p_done_all (T : Txt K mg C) : C8.Cal P w K mg base 4 "done_all" (sp_p_done_all K C) [] :=
  C8.cal0 T.d_p_done_all T.bi_p_done_all .nil sc_p_done_all (fun vs H Q E h => by first | (obtain ⟨rfl, _⟩ := h; rfl) | (obtain ⟨_, rfl, _⟩ := h; rfl) | (obtain ⟨_, _, rfl, _⟩ := h; rfl) | (obtain ⟨_, _, _, rfl, _⟩ := h; rfl) | (obtain ⟨_, _, _, _, rfl, _⟩ := h; rfl) | (obtain ⟨_, _, _, _, _, rfl, _⟩ := h; rfl) | (obtain ⟨_, _, _, _, _, _, rfl, _⟩ := h; rfl) | (obtain ⟨_, _, _, _, _, _, _, rfl, _⟩ := h; rfl) | (obtain ⟨_, _, _, _, _, _, _, _, rfl, _⟩ := h; rfl)) (fun cdv A outer s H vs Q E hr h => ⟨t_p_done_all K C, (pss_cons (ps_expr (C8.pe_c (ok_p_check_moves T) hr (by decide) rfl (pa_cons (pv 0) pa_nil))) (pss_cons (ps_expr (C8.pe_c (ok_p_check_order T) hr (by decide) rfl (pa_cons (pv 1) pa_nil))) (pss_cons (ps_set (i := 2) sc_p_done_all.nd rfl (Or.inl rfl) (pe_callTy call_listOf (by rfl) T.b_list (by decide +kernel) (pa_cons (pv 1) pa_nil))) (pss_cons (ps_for PassesOwn.never rfl (pi_list (pv 0)) (pg_name (i := 3) sc_p_done_all.nd rfl (Or.inl rfl)) (pss_one (ps_set (i := 2) sc_p_done_all.nd rfl (Or.inl rfl) (pe_mtA (met_done T (by decide)) hr (pv 3) (pa_cons (pv 2) pa_nil))))) (pss_one (ps_ret (pv 2))))))), rd_p_done_all T.F h⟩)
theorem ok_p_move_text (T : Txt K mg C) : C8.Cal P w K mg base 1 "move_text" (sp_p_move_text K C) [] :=
  C8.cal0 T.d_p_move_text T.bi_p_move_text .nil sc_p_move_text (fun vs H Q E h => by first | (obtain ⟨rfl, _⟩ := h; rfl) | (obtain ⟨_, rfl, _⟩ := h; rfl) | (obtain ⟨_, _, rfl, _⟩ := h; rfl) | (obtain ⟨_, _, _, rfl, _⟩ := h; rfl) | (obtain ⟨_, _, _, _, rfl, _⟩ := h; rfl) | (obtain ⟨_, _, _, _, _, rfl, _⟩ := h; rfl) | (obtain ⟨_, _, _, _, _, _, rfl, _⟩ := h; rfl) | (obtain ⟨_, _, _, _, _, _, _, rfl, _⟩ := h; rfl) | (obtain ⟨_, _, _, _, _, _, _, _, rfl, _⟩ := h; rfl)) (fun cdv A outer s H vs Q E hr h => ⟨t_p_move_text K C, (pss_cons (ps_if (pt_val (pe_callB call_isi (by rfl) T.b_isinstance (by decide +kernel) (pa_cons (pv 0) (pa_cons (pe_glob rfl T.g_Cut rfl) pa_nil)))) (pss_one (ps_ret (pe_op op_addS pe_str (pe_callTy call_strI (by rfl) T.b_str (by decide +kernel) (pa_cons (pe_fld (pv 0) rfl) pa_nil))))) pss_nil) (pss_cons (ps_if (pt_val (pe_callB call_isi (by rfl) T.b_isinstance (by decide +kernel) (pa_cons (pv 0) (pa_cons (pe_glob rfl T.g_Deal rfl) pa_nil)))) (pss_one (ps_ret (pe_op op_addS pe_str (pe_callTy call_strI (by rfl) T.b_str (by decide +kernel) (pa_cons (pe_fld (pv 0) rfl) pa_nil))))) pss_nil) (pss_cons (ps_if (pt_val (pe_callB call_isi (by rfl) T.b_isinstance (by decide +kernel) (pa_cons (pv 0) (pa_cons (pe_glob rfl T.g_Weave rfl) pa_nil)))) (pss_one (ps_ret (pe_op op_addS pe_str (pe_callTy call_strI (by rfl) T.b_str (by decide +kernel) (pa_cons (pe_fld (pv 0) rfl) pa_nil))))) pss_nil) (pss_cons (ps_if (pt_val (pe_callB call_isi (by rfl) T.b_isinstance (by decide +kernel) (pa_cons (pv 0) (pa_cons (pe_glob rfl T.g_Riffle rfl) pa_nil)))) (pss_one (ps_ret (pe_op op_addS pe_str (pe_fld (pv 0) rfl)))) pss_nil) (pss_cons (ps_if (pt_val (pe_callB call_isi (by rfl) T.b_isinstance (by decide +kernel) (pa_cons (pv 0) (pa_cons (pe_glob rfl T.g_Turn rfl) pa_nil)))) (pss_one (ps_ret pe_str)) pss_nil) (pss_one (ps_ret pe_str))))))), rd_p_move_text T.F (by rw [T.pr]; simp [prK]) h⟩)
theorem ok_p_written (T : Txt K mg C) : C8.Cal P w K mg base 2 "written" (sp_p_written K C) [] :=
  C8.cal0 T.d_p_written T.bi_p_written .nil sc_p_written (fun vs H Q E h => by first | (obtain ⟨rfl, _⟩ := h; rfl) | (obtain ⟨_, rfl, _⟩ := h; rfl) | (obtain ⟨_, _, rfl, _⟩ := h; rfl) | (obtain ⟨_, _, _, rfl, _⟩ := h; rfl) | (obtain ⟨_, _, _, _, rfl, _⟩ := h; rfl) | (obtain ⟨_, _, _, _, _, rfl, _⟩ := h; rfl) | (obtain ⟨_, _, _, _, _, _, rfl, _⟩ := h; rfl) | (obtain ⟨_, _, _, _, _, _, _, rfl, _⟩ := h; rfl) | (obtain ⟨_, _, _, _, _, _, _, _, rfl, _⟩ := h; rfl)) (fun cdv A outer s H vs Q E hr h => ⟨t_p_written K C, (pss_cons (ps_expr (C8.pe_c (ok_p_check_moves T) hr (by decide) rfl (pa_cons (pv 0) pa_nil))) (pss_one (ps_ret (pe_bm PySem.F.plainAttrs_str PySem.F.slot_str_join PySem.F.type_str_join mt_joinQ pe_str (pa_cons (pe_lc (own := [("move", 1)]) (g := gName 1) (tt := tYes) rfl sc_p_written.nd (pi_list (pv 0)) (blkOk_by (own := [("move", 1)]) (N := ["moves", "move"]) (sc := defScope s_p_written) (by decide +kernel)) (fun _ _ _ _ _ => pg_name (i := 1) sc_p_written.nd rfl (Or.inl rfl)) (fun _ _ _ _ _ => pts_nil) (fun _ _ _ _ _ => (C8.pe_c (ok_p_move_text T) hr (by decide) rfl (pa_cons (pv 1) pa_nil)))) pa_nil))))), rd_p_written T.F h⟩)
theorem okx_p_number_in (T : Txt K mg C) : CalN P w K mg base (L2N.CX P w) 1 "number_in" (sp_p_number_in K C) :=
  calN T.d_p_number_in T.bi_p_number_in sc_p_number_in (fun vs H Q E h => by first | (obtain ⟨rfl, _⟩ := h; rfl) | (obtain ⟨_, rfl, _⟩ := h; rfl) | (obtain ⟨_, _, rfl, _⟩ := h; rfl) | (obtain ⟨_, _, _, rfl, _⟩ := h; rfl) | (obtain ⟨_, _, _, _, rfl, _⟩ := h; rfl) | (obtain ⟨_, _, _, _, _, rfl, _⟩ := h; rfl) | (obtain ⟨_, _, _, _, _, _, rfl, _⟩ := h; rfl) | (obtain ⟨_, _, _, _, _, _, _, rfl, _⟩ := h; rfl) | (obtain ⟨_, _, _, _, _, _, _, _, rfl, _⟩ := h; rfl)) (fun cdv A outer s H vs Q E hr h => ⟨t_x_p_number_in K C E, (pss_cons (ps_if (PW.pt (pw_or (pt_not (pt_chain op_le op_le pe_int (pe_callB call_lenS (by rfl) T.b_len (by decide +kernel) (pa_cons (pv 0) pa_nil)) pe_int)) (pw_or (pt_cmpR op_ne (pe_bm PySem.F.plainAttrs_str PySem.F.slot_str_strip PySem.F.type_str_strip mt_stripQ (pv 0) (pa_cons (C8.pe_gc rfl T.c_FIGURES) pa_nil)) pe_str (nomark _)) (pw_or1 (PW.pt (pw_and (pt_cmpR op_eq (pe_ix ix_str (pv 0) pe_int (fun _ _ => rfl)) pe_str (nomark _)) (pw_and1 (pt_cmpR op_ne (pv 0) pe_str (nomark _))))))))) (pss_one (L2N.ps_raise rfl (L2N.takes_of rfl rfl rfl rfl) (L2N.pmk_own PySem.F.excBase_ValueError T.X.bt.e T.X.bt.g T.X.bt.k (raises_own T.X.bt.b T.X.bt.t) (by rfl)))) pss_nil) (pss_one (ps_ret (pe_callTy call_intS (by rfl) T.b_int (by decide +kernel) (pa_cons (pv 0) pa_nil))))), rd_x_p_number_in h⟩)
theorem okx_p_move_in (T : Txt K mg C) : CalN P w K mg base (L2N.CX P w) 4 "move_in" (sp_p_move_in K C) :=
  calN T.d_p_move_in T.bi_p_move_in sc_p_move_in (fun vs H Q E h => by first | (obtain ⟨rfl, _⟩ := h; rfl) | (obtain ⟨_, rfl, _⟩ := h; rfl) | (obtain ⟨_, _, rfl, _⟩ := h; rfl) | (obtain ⟨_, _, _, rfl, _⟩ := h; rfl) | (obtain ⟨_, _, _, _, rfl, _⟩ := h; rfl) | (obtain ⟨_, _, _, _, _, rfl, _⟩ := h; rfl) | (obtain ⟨_, _, _, _, _, _, rfl, _⟩ := h; rfl) | (obtain ⟨_, _, _, _, _, _, _, rfl, _⟩ := h; rfl) | (obtain ⟨_, _, _, _, _, _, _, _, rfl, _⟩ := h; rfl)) (fun cdv A outer s H vs Q E hr h => ⟨t_x_p_move_in K C E, (pss_cons (ps_if (pt_cmpR op_eq (pv 0) pe_str (nomark _)) (pss_one (ps_ret (pe_makeO T.mo_Turn rfl))) pss_nil) (pss_cons (ps_if (pt_cmpR op_eq (pv 0) pe_str (nomark _)) (pss_one (ps_ret (pe_makeO T.mo_Under rfl))) pss_nil) (pss_cons (ps_asg (pe_bm PySem.F.plainAttrs_str PySem.F.slot_str_partition PySem.F.type_str_partition mt_partQ (pv 0) (pa_cons pe_str pa_nil)) (pg_tup rfl (pgs_cons (pg_name (i := 1) sc_p_move_in.nd rfl (Or.inl rfl)) (pgs_cons (pg_name (i := 2) sc_p_move_in.nd rfl (Or.inl rfl)) (pgs_cons (pg_name (i := 3) sc_p_move_in.nd rfl (Or.inl rfl)) pgs_nil))))) (pss_cons (ps_if (PW.pt (pw_and (pt_cmpR op_eq (pv 1) pe_str (nomark _)) (pw_and1 (pt_cmpR op_ne (pv 2) pe_str (nomark _))))) (pss_one (ps_ret (pe_mkN (okx_p_Cut_init T) hr (by decide) rfl (L2N.passes_call (L2N.takes_of rfl rfl rfl rfl) (fun _ _ _ _ z => z)) (pa_cons (pe_cN (okx_p_number_in T) hr (by decide) rfl (L2N.passes_call (L2N.takes_of rfl rfl rfl rfl) (fun _ _ _ _ z => z)) (pa_cons (pv 3) pa_nil)) pa_nil)))) pss_nil) (pss_cons (ps_if (PW.pt (pw_and (pt_cmpR op_eq (pv 1) pe_str (nomark _)) (pw_and1 (pt_cmpR op_ne (pv 2) pe_str (nomark _))))) (pss_one (ps_ret (pe_mkN (okx_p_Deal_init T) hr (by decide) rfl (L2N.passes_call (L2N.takes_of rfl rfl rfl rfl) (fun _ _ _ _ z => z)) (pa_cons (pe_cN (okx_p_number_in T) hr (by decide) rfl (L2N.passes_call (L2N.takes_of rfl rfl rfl rfl) (fun _ _ _ _ z => z)) (pa_cons (pv 3) pa_nil)) pa_nil)))) pss_nil) (pss_cons (ps_if (PW.pt (pw_and (pt_cmpR op_eq (pv 1) pe_str (nomark _)) (pw_and1 (pt_cmpR op_ne (pv 2) pe_str (nomark _))))) (pss_one (ps_ret (pe_mkN (okx_p_Weave_init T) hr (by decide) rfl (L2N.passes_call (L2N.takes_of rfl rfl rfl rfl) (fun _ _ _ _ z => z)) (pa_cons (pe_cN (okx_p_number_in T) hr (by decide) rfl (L2N.passes_call (L2N.takes_of rfl rfl rfl rfl) (fun _ _ _ _ z => z)) (pa_cons (pv 3) pa_nil)) pa_nil)))) pss_nil) (pss_cons (ps_if (PW.pt (pw_and (pt_cmpR op_eq (pv 1) pe_str (nomark _)) (pw_and1 (pt_cmpR op_ne (pv 2) pe_str (nomark _))))) (pss_one (ps_ret (pe_mkN (okx_p_Riffle_init T) hr (by decide) rfl (L2N.passes_call (L2N.takes_of rfl rfl rfl rfl) (fun _ _ _ _ z => z)) (pa_cons (pv 3) pa_nil)))) pss_nil) (pss_one (L2N.ps_raise rfl (L2N.takes_of rfl rfl rfl rfl) (L2N.pmk_own PySem.F.excBase_ValueError T.X.bt.e T.X.bt.g T.X.bt.k (raises_own T.X.bt.b T.X.bt.t) (by rfl))))))))))), rd_x_p_move_in T.F (fun κ => by rw [T.av]; exact True.intro) h⟩)
theorem ok_p_read (T : Txt K mg C) : C8.Cal P w K mg base 5 "read" (sp_p_read K C) [] :=
  C8.cal0 T.d_p_read T.bi_p_read .nil sc_p_read (fun vs H Q E h => by first | (obtain ⟨rfl, _⟩ := h; rfl) | (obtain ⟨_, rfl, _⟩ := h; rfl) | (obtain ⟨_, _, rfl, _⟩ := h; rfl) | (obtain ⟨_, _, _, rfl, _⟩ := h; rfl) | (obtain ⟨_, _, _, _, rfl, _⟩ := h; rfl) | (obtain ⟨_, _, _, _, _, rfl, _⟩ := h; rfl) | (obtain ⟨_, _, _, _, _, _, rfl, _⟩ := h; rfl) | (obtain ⟨_, _, _, _, _, _, _, rfl, _⟩ := h; rfl) | (obtain ⟨_, _, _, _, _, _, _, _, rfl, _⟩ := h; rfl)) (fun cdv A outer s H vs Q E hr h => ⟨t_p_read K C, (pss_cons (ps_if (pt_not (pt_val (pe_callB call_isi (by rfl) T.b_isinstance (by decide +kernel) (pa_cons (pv 0) (pa_cons (pe_bltn (v := .ty "str") (by rfl) T.b_str (by decide +kernel) rfl) pa_nil))))) (pss_one ps_never) pss_nil)
    (pss_cons (ps_if (pt_cmpR op_eq (pv 0) pe_str (nomark _)) (pss_one (ps_ret (pe_lst pa_nil))) pss_nil)
    (pss_one (ps_try_thru (pss_one (ps_setLc (i := 1) (own := [("one", 2)]) (g := gName 2) (tt := tYes) rfl sc_p_read.nd rfl rfl (sw_true rfl rfl rfl (by decide +kernel)) (pi_list (pe_bm PySem.F.plainAttrs_str PySem.F.slot_str_split PySem.F.type_str_split mt_splitQ (pv 0) (pa_cons pe_str pa_nil))) (blkOk_by (own := [("one", 2)]) (N := ["text", "found", "one"]) (sc := defScope s_p_read) (by decide +kernel)) (fun _ _ _ _ _ => pg_name (i := 2) sc_p_read.nd rfl (Or.inl rfl)) (fun _ _ _ _ _ => pts_nil) (fun _ _ _ _ _ => pe_cN (okx_p_move_in T) hr (by decide) rfl passN0 (pa_cons (pv 2) pa_nil)))) (pss_one (ps_ret (pv 1))))))), rd_p_read h⟩)
theorem okb_p_read (T : Txt K mg C) : CalN P w K mg base (L2.CX P w) 5 "read" (sp_p_readB K C) :=
  calN T.d_p_read T.bi_p_read sc_p_read (fun vs H Q E h => by first | (obtain ⟨rfl, _⟩ := h; rfl) | (obtain ⟨_, rfl, _⟩ := h; rfl) | (obtain ⟨_, _, rfl, _⟩ := h; rfl) | (obtain ⟨_, _, _, rfl, _⟩ := h; rfl) | (obtain ⟨_, _, _, _, rfl, _⟩ := h; rfl) | (obtain ⟨_, _, _, _, _, rfl, _⟩ := h; rfl) | (obtain ⟨_, _, _, _, _, _, rfl, _⟩ := h; rfl) | (obtain ⟨_, _, _, _, _, _, _, rfl, _⟩ := h; rfl) | (obtain ⟨_, _, _, _, _, _, _, _, rfl, _⟩ := h; rfl)) (fun cdv A outer s H vs Q E hr h => ⟨tb_p_read K C E, (pss_cons (ps_if (pt_not (pt_val (pe_callB call_isi (by rfl) T.b_isinstance (by decide +kernel) (pa_cons (pv 0) (pa_cons (pe_bltn (v := .ty "str") (by rfl) T.b_str (by decide +kernel) rfl) pa_nil))))) (pss_one (L2.ps_raise rfl (L2.takes_of rfl rfl rfl rfl) (L2.pmk_own PySem.F.excBase_ValueError T.X.bt.e T.X.bt.g T.X.bt.k (raises_own T.X.bt.b T.X.bt.t) (by rfl)))) pss_nil)
    (pss_cons (ps_if (pt_cmpR op_eq (pv 0) pe_str (nomark _)) (pss_one (ps_ret (pe_lst pa_nil))) pss_nil)
    (pss_one (RfC.ps_else (L2H.ps_try_onlyX (tb := fun W _ σ H => RfC.tLcB (tSpl K) (gName 2) (tCall (sp_p_move_in K C) [] (fun cls d H' => W cls d σ H') (tCons (tVar 2) tNil)) [2] σ H) (ts := fun _ _ _ => tRaise E C.cBadText) (Wout := fun cls d _ H => E cls d H) rfl rfl ⟨by rfl, by decide, .inl T.X.bm.g⟩ (fun hd => L2H.passesAt_of rfl hd) (L2.takes_of rfl rfl rfl rfl)
      (fun W pn xe tkN tkP ps => pss_one (RfC.ps_setLcB (i := 1) (own := [("one", 2)]) (g := gName 2) (te := fun E' => tCall (sp_p_move_in K C) [] E' (tCons (tVar 2) tNil)) rfl rfl rfl sc_p_read.nd (sw_true rfl rfl rfl (by decide +kernel)) (pi_list (pe_bm PySem.F.plainAttrs_str PySem.F.slot_str_split PySem.F.type_str_split mt_splitQ (pv 0) (pa_cons pe_str pa_nil))) (blkOk_by (own := [("one", 2)]) (N := ["text", "found", "one"]) (sc := defScope s_p_read) (by decide +kernel)) (fun _ _ _ _ _ => pg_name (i := 2) sc_p_read.nd rfl (Or.inl rfl)) tkN (fun σ _ _ _ _ _ _ hp => pe_cN (okx_p_move_in T) hr (by decide) (by rfl) (fun pins σ' H s e s' I c => hp σ' pins H s e s' I c) (pa_cons (pv 2) pa_nil))))
      (fun a oe cls d pn hz hf tkS hot => pss_one (L2H.ps_raiseH hot tkS (L2N.pmk_own PySem.F.excBase_ValueError T.X.bt.e T.X.bt.g T.X.bt.k (raises_own T.X.bt.b T.X.bt.t) (by rfl))))))))), rd_b_p_read T.X.mTM T.X.mMM h⟩)
theorem ok_l_cell_at (T : Txt K mg C) : C8.Cal P w K mg base 1 "_law_cell_at" (sp_l_cell_at K C) [] :=
  C8.cal0 T.d_l_cell_at T.bi_l_cell_at .nil sc_l_cell_at (fun vs H Q E h => by first | (obtain ⟨rfl, _⟩ := h; rfl) | (obtain ⟨_, rfl, _⟩ := h; rfl) | (obtain ⟨_, _, rfl, _⟩ := h; rfl) | (obtain ⟨_, _, _, rfl, _⟩ := h; rfl) | (obtain ⟨_, _, _, _, rfl, _⟩ := h; rfl) | (obtain ⟨_, _, _, _, _, rfl, _⟩ := h; rfl) | (obtain ⟨_, _, _, _, _, _, rfl, _⟩ := h; rfl) | (obtain ⟨_, _, _, _, _, _, _, rfl, _⟩ := h; rfl) | (obtain ⟨_, _, _, _, _, _, _, _, rfl, _⟩ := h; rfl)) (fun cdv A outer s H vs Q E hr h => ⟨t_l_cell_at K C, (pss_cons (ps_if (pt_cmpR op_lt (pv 1) (pe_callB call_lenQ (by rfl) T.b_len (by decide +kernel) (pa_cons (pv 0) pa_nil)) (nomark _)) (pss_one (ps_ret (pe_ix ix_list (pv 0) (pv 1) (fun _ _ => rfl)))) pss_nil) (pss_one (ps_ret pe_int))), rd_l_cell_at h⟩)
theorem ok_l_draw (T : Txt K mg C) : C8.Cal P w K mg base 1 "_law_draw" (sp_l_draw K C) [] :=
  C8.cal0 T.d_l_draw T.bi_l_draw .nil sc_l_draw (fun vs H Q E h => by first | (obtain ⟨rfl, _⟩ := h; rfl) | (obtain ⟨_, rfl, _⟩ := h; rfl) | (obtain ⟨_, _, rfl, _⟩ := h; rfl) | (obtain ⟨_, _, _, rfl, _⟩ := h; rfl) | (obtain ⟨_, _, _, _, rfl, _⟩ := h; rfl) | (obtain ⟨_, _, _, _, _, rfl, _⟩ := h; rfl) | (obtain ⟨_, _, _, _, _, _, rfl, _⟩ := h; rfl) | (obtain ⟨_, _, _, _, _, _, _, rfl, _⟩ := h; rfl) | (obtain ⟨_, _, _, _, _, _, _, _, rfl, _⟩ := h; rfl)) (fun cdv A outer s H vs Q E hr h => ⟨t_l_draw K C, (pss_cons (ps_set (i := 3) sc_l_draw.nd rfl (Or.inl rfl) (pe_tup (pa_cons pe_int (pa_cons pe_int (pa_cons pe_int (pa_cons pe_int (pa_cons pe_int (pa_cons pe_int (pa_cons pe_int (pa_cons pe_int (pa_cons pe_int (pa_cons pe_int (pa_cons pe_int (pa_cons pe_int (pa_cons pe_int (pa_cons pe_int (pa_cons pe_int (pa_cons pe_int pa_nil)))))))))))))))))) (pss_one (ps_ret (pe_op op_mod (pe_op op_mod (pe_op op_add (pe_op op_mul (pv 0) pe_int) (pe_op op_mul (pv 1) pe_int)) (pe_ix ix_tup (pv 3) (pe_op op_mod (pv 1) pe_int) (fun _ _ => rfl))) (pv 2))))), rd_l_draw h⟩)
theorem ok_l_order (T : Txt K mg C) : C8.Cal P w K mg base 2 "_law_order" (sp_l_order K C) [] :=
  C8.cal0 T.d_l_order T.bi_l_order .nil sc_l_order (fun vs H Q E h => by first | (obtain ⟨rfl, _⟩ := h; rfl) | (obtain ⟨_, rfl, _⟩ := h; rfl) | (obtain ⟨_, _, rfl, _⟩ := h; rfl) | (obtain ⟨_, _, _, rfl, _⟩ := h; rfl) | (obtain ⟨_, _, _, _, rfl, _⟩ := h; rfl) | (obtain ⟨_, _, _, _, _, rfl, _⟩ := h; rfl) | (obtain ⟨_, _, _, _, _, _, rfl, _⟩ := h; rfl) | (obtain ⟨_, _, _, _, _, _, _, rfl, _⟩ := h; rfl) | (obtain ⟨_, _, _, _, _, _, _, _, rfl, _⟩ := h; rfl)) (fun cdv A outer s H vs Q E hr h => ⟨t_l_order K C, (pss_cons (ps_set (i := 2) sc_l_order.nd rfl (Or.inl rfl) (pe_listRg rfl (by rfl) T.b_list (prg_1 (by rfl) T.b_range (pv 1)))) (pss_cons (ps_set (i := 3) sc_l_order.nd rfl (Or.inl rfl) (pe_ix ix_tup (pe_tup (pa_cons (pv 1) (pa_cons pe_int (pa_cons pe_int (pa_cons pe_int pa_nil))))) (C8.pe_c (ok_l_draw T) hr (by decide) rfl (pa_cons (pv 0) (pa_cons pe_int (pa_cons pe_int pa_nil)))) (fun _ _ => rfl))) (pss_cons (ps_for PassesOwn.never rfl (pi_range1 rfl T.b_range (pa_cons (pv 3) pa_nil)) (pg_name (i := 4) sc_l_order.nd rfl (Or.inl rfl)) (pss_cons (ps_set (i := 5) sc_l_order.nd rfl (Or.inl rfl) (C8.pe_c (ok_l_draw T) hr (by decide) rfl (pa_cons (pe_op op_mul (pe_op op_add (pv 0) (pe_op op_mul pe_int (pv 4))) (pe_op op_add (pv 4) pe_int)) (pa_cons pe_int (pa_cons (pv 1) pa_nil))))) (pss_cons (ps_set (i := 6) sc_l_order.nd rfl (Or.inl rfl) (C8.pe_c (ok_l_draw T) hr (by decide) rfl (pa_cons (pe_op op_mul (pe_op op_add (pv 0) (pe_op op_mul pe_int (pv 4))) (pe_op op_add (pv 4) pe_int)) (pa_cons pe_int (pa_cons (pv 1) pa_nil))))) (pss_one (ps_asg (pe_tup (pa_cons (pe_ix ix_list (pv 2) (pv 6) (fun _ _ => rfl)) (pa_cons (pe_ix ix_list (pv 2) (pv 5) (fun _ _ => rfl)) pa_nil))) (pg_tup rfl (pgs_cons (pg_sub (pv 2) (pv 5) set_list) (pgs_cons (pg_sub (pv 2) (pv 6) set_list) pgs_nil)))))))) (pss_one (ps_ret (pv 2)))))), rd_l_order h⟩)
theorem ok_l_many (T : Txt K mg C) : C8.Cal P w K mg base 2 "_law_many" (sp_l_many K C) [] :=
  C8.cal0 T.d_l_many T.bi_l_many .nil sc_l_many (fun vs H Q E h => by first | (obtain ⟨rfl, _⟩ := h; rfl) | (obtain ⟨_, rfl, _⟩ := h; rfl) | (obtain ⟨_, _, rfl, _⟩ := h; rfl) | (obtain ⟨_, _, _, rfl, _⟩ := h; rfl) | (obtain ⟨_, _, _, _, rfl, _⟩ := h; rfl) | (obtain ⟨_, _, _, _, _, rfl, _⟩ := h; rfl) | (obtain ⟨_, _, _, _, _, _, rfl, _⟩ := h; rfl) | (obtain ⟨_, _, _, _, _, _, _, rfl, _⟩ := h; rfl) | (obtain ⟨_, _, _, _, _, _, _, _, rfl, _⟩ := h; rfl)) (fun cdv A outer s H vs Q E hr h => ⟨t_l_many K C, (pss_one (ps_ret (pe_op op_add (pe_op op_add pe_int (C8.pe_c (ok_l_draw T) hr (by decide) rfl (pa_cons (pv 0) (pa_cons (pv 1) (pa_cons pe_int pa_nil))))) (pe_op op_mul (pe_op op_mul pe_int (C8.pe_c (ok_l_draw T) hr (by decide) rfl (pa_cons (pv 0) (pa_cons (pe_op op_add (pv 1) pe_int) (pa_cons pe_int pa_nil))))) (pe_op op_fdiv (C8.pe_c (ok_l_draw T) hr (by decide) rfl (pa_cons (pv 0) (pa_cons (pe_op op_add (pv 1) pe_int) (pa_cons pe_int pa_nil)))) pe_int))))), rd_l_many h⟩)
theorem ok_l_word (T : Txt K mg C) : C8.Cal P w K mg base 2 "_law_word" (sp_l_word K C) [] :=
  C8.cal0 T.d_l_word T.bi_l_word .nil sc_l_word (fun vs H Q E h => by first | (obtain ⟨rfl, _⟩ := h; rfl) | (obtain ⟨_, rfl, _⟩ := h; rfl) | (obtain ⟨_, _, rfl, _⟩ := h; rfl) | (obtain ⟨_, _, _, rfl, _⟩ := h; rfl) | (obtain ⟨_, _, _, _, rfl, _⟩ := h; rfl) | (obtain ⟨_, _, _, _, _, rfl, _⟩ := h; rfl) | (obtain ⟨_, _, _, _, _, _, rfl, _⟩ := h; rfl) | (obtain ⟨_, _, _, _, _, _, _, rfl, _⟩ := h; rfl) | (obtain ⟨_, _, _, _, _, _, _, _, rfl, _⟩ := h; rfl)) (fun cdv A outer s H vs Q E hr h => ⟨t_l_word K C, (pss_cons (ps_set (i := 2) sc_l_word.nd rfl (Or.inl rfl) pe_str) (pss_cons (ps_set (i := 3) sc_l_word.nd rfl (Or.inl rfl) (C8.pe_c (ok_l_draw T) hr (by decide) rfl (pa_cons (pv 0) (pa_cons pe_int (pa_cons pe_int pa_nil))))) (pss_cons (ps_for PassesOwn.never rfl (pi_range1 rfl T.b_range (pa_cons (pv 1) pa_nil)) (pg_name (i := 4) sc_l_word.nd rfl (Or.inl rfl)) (pss_cons (ps_set (i := 5) sc_l_word.nd rfl (Or.inl rfl) (C8.pe_c (ok_l_draw T) hr (by decide) rfl (pa_cons (pe_op op_mul (pe_op op_add (pv 0) (pe_op op_mul pe_int (pv 4))) (pe_op op_add (pv 4) pe_int)) (pa_cons pe_int (pa_cons pe_int pa_nil))))) (pss_one (ps_aug (i := 2) sc_l_word.nd rfl (Or.inl rfl) (pe_ifExp (pt_cmpR op_lt (pv 5) (pe_ix ix_tup (pe_tup (pa_cons pe_int (pa_cons pe_int (pa_cons pe_int (pa_cons pe_int pa_nil))))) (pv 3) (fun _ _ => rfl)) (nomark _)) pe_str pe_str) ip_addS)))) (pss_one (ps_ret (pv 2)))))), rd_l_word h⟩)
theorem ok_l_riffled (T : Txt K mg C) : C8.Cal P w K mg base 1 "_law_riffled" (sp_l_riffled K C) [] :=
  C8.cal0 T.d_l_riffled T.bi_l_riffled .nil sc_l_riffled (fun vs H Q E h => by first | (obtain ⟨rfl, _⟩ := h; rfl) | (obtain ⟨_, rfl, _⟩ := h; rfl) | (obtain ⟨_, _, rfl, _⟩ := h; rfl) | (obtain ⟨_, _, _, rfl, _⟩ := h; rfl) | (obtain ⟨_, _, _, _, rfl, _⟩ := h; rfl) | (obtain ⟨_, _, _, _, _, rfl, _⟩ := h; rfl) | (obtain ⟨_, _, _, _, _, _, rfl, _⟩ := h; rfl) | (obtain ⟨_, _, _, _, _, _, _, rfl, _⟩ := h; rfl) | (obtain ⟨_, _, _, _, _, _, _, _, rfl, _⟩ := h; rfl)) (fun cdv A outer s H vs Q E hr h => ⟨t_l_riffled K C, (pss_cons (ps_par rfl sc_l_riffled.nd rfl rfl (by decide) rfl rfl (pa_cons (pe_slice sl_list (pv 0) po_none (po_some (pe_bm PySem.F.plainAttrs_str PySem.F.slot_str_count PySem.F.type_str_count mt_countQ (pv 1) (pa_cons pe_str pa_nil)))) (pa_cons (pe_slice sl_list (pv 0) (po_some (pe_bm PySem.F.plainAttrs_str PySem.F.slot_str_count PySem.F.type_str_count mt_countQ (pv 1) (pa_cons pe_str pa_nil))) po_none) pa_nil)) (by rfl)) (pss_cons (ps_set (i := 4) sc_l_riffled.nd rfl (Or.inl rfl) (pe_lst pa_nil)) (pss_cons (ps_for PassesOwn.never rfl (pi_str (pv 1)) (pg_name (i := 5) sc_l_riffled.nd rfl (Or.inl rfl)) (pss_one (ps_if (pt_cmpR op_eq (pv 5) pe_str (nomark _)) (pss_cons (ps_expr (pe_bm PySem.F.plainAttrs_list PySem.F.slot_list_append PySem.F.type_list_append mt_append (pv 4) (pa_cons (pe_ix ix_list (pv 2) pe_int (fun _ _ => rfl)) pa_nil))) (pss_one (ps_set (i := 2) sc_l_riffled.nd rfl (Or.inl rfl) (pe_slice sl_list (pv 2) (po_some pe_int) po_none)))) (pss_cons (ps_expr (pe_bm PySem.F.plainAttrs_list PySem.F.slot_list_append PySem.F.type_list_append mt_append (pv 4) (pa_cons (pe_ix ix_list (pv 3) pe_int (fun _ _ => rfl)) pa_nil))) (pss_one (ps_set (i := 3) sc_l_riffled.nd rfl (Or.inl rfl) (pe_slice sl_list (pv 3) (po_some pe_int) po_none))))))) (pss_one (ps_ret (pv 4)))))), rd_l_riffled h⟩)
theorem ok_l_dealt (T : Txt K mg C) : C8.Cal P w K mg base 1 "_law_dealt" (sp_l_dealt K C) [] :=
  C8.cal0 T.d_l_dealt T.bi_l_dealt .nil sc_l_dealt (fun vs H Q E h => by first | (obtain ⟨rfl, _⟩ := h; rfl) | (obtain ⟨_, rfl, _⟩ := h; rfl) | (obtain ⟨_, _, rfl, _⟩ := h; rfl) | (obtain ⟨_, _, _, rfl, _⟩ := h; rfl) | (obtain ⟨_, _, _, _, rfl, _⟩ := h; rfl) | (obtain ⟨_, _, _, _, _, rfl, _⟩ := h; rfl) | (obtain ⟨_, _, _, _, _, _, rfl, _⟩ := h; rfl) | (obtain ⟨_, _, _, _, _, _, _, rfl, _⟩ := h; rfl) | (obtain ⟨_, _, _, _, _, _, _, _, rfl, _⟩ := h; rfl)) (fun cdv A outer s H vs Q E hr h => ⟨t_l_dealt K C, (pss_cons (ps_setLc (i := 2) (own := [("_law_k", 3)]) (g := gName 3) (tt := tYes) rfl sc_l_dealt.nd rfl rfl (sw_true rfl rfl rfl (by decide +kernel)) (pi_range1 rfl T.b_range (pa_cons (pv 1) pa_nil)) (blkOk_by (own := [("_law_k", 3)]) (N := ["_law_order_here", "_law_piles", "_law_heaps", "_law_k", "_law_made_here", "_law_heap"]) (sc := defScope s_l_dealt) (by decide +kernel)) (fun _ _ _ _ _ => pg_name (i := 3) sc_l_dealt.nd rfl (Or.inl rfl)) (fun _ _ _ _ _ => pts_nil) (fun _ _ _ _ _ => (pe_lst pa_nil))) (pss_cons (ps_for PassesOwn.never rfl (pi_range1 rfl T.b_range (pa_cons (pe_callB call_lenQ (by rfl) T.b_len (by decide +kernel) (pa_cons (pv 0) pa_nil)) pa_nil)) (pg_name (i := 3) sc_l_dealt.nd rfl (Or.inl rfl)) (pss_one (ps_asg (pe_op op_cat (pe_lst (pa_cons (pe_ix ix_list (pv 0) (pv 3) (fun _ _ => rfl)) pa_nil)) (pe_ix ix_list (pv 2) (pe_op op_mod (pv 3) (pv 1)) (fun _ _ => rfl))) (pg_sub (pv 2) (pe_op op_mod (pv 3) (pv 1)) set_list)))) (pss_cons (ps_set (i := 4) sc_l_dealt.nd rfl (Or.inl rfl) (pe_lst pa_nil)) (pss_cons (ps_for PassesOwn.never rfl (pi_list (pv 2)) (pg_name (i := 5) sc_l_dealt.nd rfl (Or.inl rfl)) (pss_one (ps_set (i := 4) sc_l_dealt.nd rfl (Or.inl rfl) (pe_op op_cat (pv 5) (pv 4))))) (pss_one (ps_ret (pv 4))))))), rd_l_dealt h⟩)
theorem ok_l_under (T : Txt K mg C) : C8.Cal P w K mg base 1 "_law_under" (sp_l_under K C) [] :=
  C8.cal0 T.d_l_under T.bi_l_under .nil sc_l_under (fun vs H Q E h => by first | (obtain ⟨rfl, _⟩ := h; rfl) | (obtain ⟨_, rfl, _⟩ := h; rfl) | (obtain ⟨_, _, rfl, _⟩ := h; rfl) | (obtain ⟨_, _, _, rfl, _⟩ := h; rfl) | (obtain ⟨_, _, _, _, rfl, _⟩ := h; rfl) | (obtain ⟨_, _, _, _, _, rfl, _⟩ := h; rfl) | (obtain ⟨_, _, _, _, _, _, rfl, _⟩ := h; rfl) | (obtain ⟨_, _, _, _, _, _, _, rfl, _⟩ := h; rfl) | (obtain ⟨_, _, _, _, _, _, _, _, rfl, _⟩ := h; rfl)) (fun cdv A outer s H vs Q E hr h => ⟨t_l_under K C, (pss_cons (ps_par rfl sc_l_under.nd rfl rfl (by decide) rfl rfl (pa_cons (pe_callTy call_listOf (by rfl) T.b_list (by decide +kernel) (pa_cons (pv 0) pa_nil)) (pa_cons (pe_lst pa_nil) pa_nil)) (by rfl)) (pss_cons (ps_while PassesOwn.never (pt_cmpR (op_neD hr.units) (pv 1) (pe_lst pa_nil) (nomark _)) (pss_cons (ps_expr (pe_bm PySem.F.plainAttrs_list PySem.F.slot_list_append PySem.F.type_list_append mt_append (pv 2) (pa_cons (pe_bm PySem.F.plainAttrs_list PySem.F.slot_list_pop PySem.F.type_list_pop mt_popAt (pv 1) (pa_cons pe_int pa_nil)) pa_nil))) (pss_one (ps_if (pt_cmpR (op_neD hr.units) (pv 1) (pe_lst pa_nil) (nomark _)) (pss_one (ps_expr (pe_bm PySem.F.plainAttrs_list PySem.F.slot_list_append PySem.F.type_list_append mt_append (pv 1) (pa_cons (pe_bm PySem.F.plainAttrs_list PySem.F.slot_list_pop PySem.F.type_list_pop mt_popAt (pv 1) (pa_cons pe_int pa_nil)) pa_nil)))) pss_nil)))) (pss_one (ps_ret (pe_revL (pv 2)))))), rd_l_under h⟩)
theorem ok_l_moved (T : Txt K mg C) : C8.Cal P w K mg base 2 "_law_moved" (sp_l_moved K C) [] :=
  C8.cal0 T.d_l_moved T.bi_l_moved .nil sc_l_moved (fun vs H Q E h => by first | (obtain ⟨rfl, _⟩ := h; rfl) | (obtain ⟨_, rfl, _⟩ := h; rfl) | (obtain ⟨_, _, rfl, _⟩ := h; rfl) | (obtain ⟨_, _, _, rfl, _⟩ := h; rfl) | (obtain ⟨_, _, _, _, rfl, _⟩ := h; rfl) | (obtain ⟨_, _, _, _, _, rfl, _⟩ := h; rfl) | (obtain ⟨_, _, _, _, _, _, rfl, _⟩ := h; rfl) | (obtain ⟨_, _, _, _, _, _, _, rfl, _⟩ := h; rfl) | (obtain ⟨_, _, _, _, _, _, _, _, rfl, _⟩ := h; rfl)) (fun cdv A outer s H vs Q E hr h => ⟨t_l_moved K C, (pss_cons (ps_asg (pv 1) (pg_tup rfl (pgs_cons (pg_name (i := 2) sc_l_moved.nd rfl (Or.inl rfl)) (pgs_cons (pg_name (i := 3) sc_l_moved.nd rfl (Or.inl rfl)) pgs_nil)))) (pss_cons (ps_if (pt_cmpR op_eq (pv 2) pe_int (nomark _)) (pss_one (ps_ret (pe_op op_cat (pe_slice sl_list (pv 0) (po_some (pv 3)) po_none) (pe_slice sl_list (pv 0) po_none (po_some (pv 3)))))) pss_nil) (pss_cons (ps_if (pt_cmpR op_eq (pv 2) pe_int (nomark _)) (pss_one (ps_ret (pe_revL (pv 0)))) pss_nil) (pss_cons (ps_if (pt_cmpR op_eq (pv 2) pe_int (nomark _)) (pss_one (ps_ret (C8.pe_c (ok_l_dealt T) hr (by decide) rfl (pa_cons (pv 0) (pa_cons (pv 3) pa_nil))))) pss_nil) (pss_cons (ps_if (pt_cmpR op_eq (pv 2) pe_int (nomark _)) (pss_one (ps_ret (C8.pe_c (ok_l_under T) hr (by decide) rfl (pa_cons (pv 0) pa_nil)))) pss_nil) (pss_cons (ps_if (pt_cmpR op_eq (pv 2) pe_int (nomark _)) (pss_one (ps_ret (C8.pe_c (ok_l_riffled T) hr (by decide) rfl (pa_cons (pv 0) (pa_cons (pe_op op_mulS (pe_ix ix_tup (pe_tup (pa_cons pe_str (pa_cons pe_str pa_nil))) (pv 3) (fun _ _ => rfl)) (pe_op op_fdiv (pe_callB call_lenQ (by rfl) T.b_len (by decide +kernel) (pa_cons (pv 0) pa_nil)) pe_int)) pa_nil))))) pss_nil) (pss_one (ps_ret (C8.pe_c (ok_l_riffled T) hr (by decide) rfl (pa_cons (pv 0) (pa_cons (pv 3) pa_nil))))))))))), rd_l_moved h⟩)
theorem ok_l_told (T : Txt K mg C) : C8.Cal P w K mg base 3 "_law_told" (sp_l_told K C) [] :=
  C8.cal0 T.d_l_told T.bi_l_told .nil sc_l_told (fun vs H Q E h => by first | (obtain ⟨rfl, _⟩ := h; rfl) | (obtain ⟨_, rfl, _⟩ := h; rfl) | (obtain ⟨_, _, rfl, _⟩ := h; rfl) | (obtain ⟨_, _, _, rfl, _⟩ := h; rfl) | (obtain ⟨_, _, _, _, rfl, _⟩ := h; rfl) | (obtain ⟨_, _, _, _, _, rfl, _⟩ := h; rfl) | (obtain ⟨_, _, _, _, _, _, rfl, _⟩ := h; rfl) | (obtain ⟨_, _, _, _, _, _, _, rfl, _⟩ := h; rfl) | (obtain ⟨_, _, _, _, _, _, _, _, rfl, _⟩ := h; rfl)) (fun cdv A outer s H vs Q E hr h => ⟨t_l_told K C, (pss_cons (ps_set (i := 2) sc_l_told.nd rfl (Or.inl rfl) (C8.pe_c (ok_l_draw T) hr (by decide) rfl (pa_cons (pv 0) (pa_cons pe_int (pa_cons pe_int pa_nil))))) (pss_cons (ps_if (PW.pt (pw_and (pt_cmpR op_eq (pv 2) pe_int (nomark _)) (pw_and1 (pt_cmpR op_eq (pe_op op_mod (pv 1) pe_int) pe_int (nomark _))))) (pss_one (ps_set (i := 2) sc_l_told.nd rfl (Or.inl rfl) pe_int)) pss_nil) (pss_cons (ps_if (pt_cmpR op_eq (pv 2) pe_int (nomark _)) (pss_one (ps_ret (pe_tup (pa_cons pe_int (pa_cons (C8.pe_c (ok_l_draw T) hr (by decide) rfl (pa_cons (pv 0) (pa_cons pe_int (pa_cons (pe_op op_add (pv 1) pe_int) pa_nil)))) pa_nil))))) pss_nil) (pss_cons (ps_if (pt_cmpR op_eq (pv 2) pe_int (nomark _)) (pss_one (ps_ret (pe_tup (pa_cons pe_int (pa_cons (pe_op op_add pe_int (C8.pe_c (ok_l_draw T) hr (by decide) rfl (pa_cons (pv 0) (pa_cons pe_int (pa_cons (pe_ix ix_tup (pe_tup (pa_cons (pv 1) (pa_cons pe_int pa_nil))) (pe_op op_fdiv (C8.pe_c (ok_l_draw T) hr (by decide) rfl (pa_cons (pv 0) (pa_cons pe_int (pa_cons pe_int pa_nil)))) pe_int) (fun _ _ => rfl)) pa_nil))))) pa_nil))))) pss_nil) (pss_cons (ps_if (pt_cmpR op_eq (pv 2) pe_int (nomark _)) (pss_one (ps_ret (pe_tup (pa_cons pe_int (pa_cons (C8.pe_c (ok_l_draw T) hr (by decide) rfl (pa_cons (pv 0) (pa_cons pe_int (pa_cons pe_int pa_nil)))) pa_nil))))) pss_nil) (pss_cons (ps_if (pt_cmpR op_eq (pv 2) pe_int (nomark _)) (pss_one (ps_ret (pe_tup (pa_cons pe_int (pa_cons (C8.pe_c (ok_l_word T) hr (by decide) rfl (pa_cons (pv 0) (pa_cons (pv 1) pa_nil))) pa_nil))))) pss_nil) (pss_one (ps_ret (pe_tup (pa_cons (pv 2) (pa_cons pe_int pa_nil))))))))))), rd_l_told h⟩)
theorem ok_l_made (T : Txt K mg C) : C8.Cal P w K mg base 4 "_law_made" (sp_l_made K C) [] :=
  C8.cal0 T.d_l_made T.bi_l_made .nil sc_l_made (fun vs H Q E h => by first | (obtain ⟨rfl, _⟩ := h; rfl) | (obtain ⟨_, rfl, _⟩ := h; rfl) | (obtain ⟨_, _, rfl, _⟩ := h; rfl) | (obtain ⟨_, _, _, rfl, _⟩ := h; rfl) | (obtain ⟨_, _, _, _, rfl, _⟩ := h; rfl) | (obtain ⟨_, _, _, _, _, rfl, _⟩ := h; rfl) | (obtain ⟨_, _, _, _, _, _, rfl, _⟩ := h; rfl) | (obtain ⟨_, _, _, _, _, _, _, rfl, _⟩ := h; rfl) | (obtain ⟨_, _, _, _, _, _, _, _, rfl, _⟩ := h; rfl)) (fun cdv A outer s H vs Q E hr h => ⟨t_l_made K C, (pss_cons (ps_asg (pv 0) (pg_tup rfl (pgs_cons (pg_name (i := 1) sc_l_made.nd rfl (Or.inl rfl)) (pgs_cons (pg_name (i := 2) sc_l_made.nd rfl (Or.inl rfl)) pgs_nil)))) (pss_cons (ps_if (pt_cmpR op_eq (pv 1) pe_int (nomark _)) (pss_one (ps_ret (C8.pe_mk (ok_p_Cut_init T) hr (by decide) rfl (pa_cons (pv 2) pa_nil)))) pss_nil) (pss_cons (ps_if (pt_cmpR op_eq (pv 1) pe_int (nomark _)) (pss_one (ps_ret (pe_makeO T.mo_Turn rfl))) pss_nil) (pss_cons (ps_if (pt_cmpR op_eq (pv 1) pe_int (nomark _)) (pss_one (ps_ret (C8.pe_mk (ok_p_Deal_init T) hr (by decide) rfl (pa_cons (pv 2) pa_nil)))) pss_nil) (pss_cons (ps_if (pt_cmpR op_eq (pv 1) pe_int (nomark _)) (pss_one (ps_ret (pe_makeO T.mo_Under rfl))) pss_nil) (pss_cons (ps_if (pt_cmpR op_eq (pv 1) pe_int (nomark _)) (pss_one (ps_ret (C8.pe_mk (ok_p_Weave_init T) hr (by decide) rfl (pa_cons (pv 2) pa_nil)))) pss_nil) (pss_one (ps_ret (C8.pe_mk (ok_p_Riffle_init T) hr (by decide) rfl (pa_cons (pv 2) pa_nil)))))))))), rd_l_made (fun κ => by rw [T.av]; exact True.intro) h⟩)
theorem ok_l_text (T : Txt K mg C) : C8.Cal P w K mg base 1 "_law_text" (sp_l_text K C) [] :=
  C8.cal0 T.d_l_text T.bi_l_text .nil sc_l_text (fun vs H Q E h => by first | (obtain ⟨rfl, _⟩ := h; rfl) | (obtain ⟨_, rfl, _⟩ := h; rfl) | (obtain ⟨_, _, rfl, _⟩ := h; rfl) | (obtain ⟨_, _, _, rfl, _⟩ := h; rfl) | (obtain ⟨_, _, _, _, rfl, _⟩ := h; rfl) | (obtain ⟨_, _, _, _, _, rfl, _⟩ := h; rfl) | (obtain ⟨_, _, _, _, _, _, rfl, _⟩ := h; rfl) | (obtain ⟨_, _, _, _, _, _, _, rfl, _⟩ := h; rfl) | (obtain ⟨_, _, _, _, _, _, _, _, rfl, _⟩ := h; rfl)) (fun cdv A outer s H vs Q E hr h => ⟨t_l_text K C, (pss_cons (ps_asg (pv 0) (pg_tup rfl (pgs_cons (pg_name (i := 1) sc_l_text.nd rfl (Or.inl rfl)) (pgs_cons (pg_name (i := 2) sc_l_text.nd rfl (Or.inl rfl)) pgs_nil)))) (pss_cons (ps_set (i := 3) sc_l_text.nd rfl (Or.inl rfl) (pe_ix ix_tup (pe_tup (pa_cons pe_str (pa_cons pe_str (pa_cons pe_str (pa_cons pe_str (pa_cons pe_str (pa_cons pe_str pa_nil))))))) (pv 1) (fun _ _ => rfl))) (pss_one (ps_ret (pe_ifExp (pt_cmpR op_in_seq (pv 1) (pe_tup (pa_cons pe_int (pa_cons pe_int pa_nil))) (by rfl)) (pv 3) (pe_op op_addS (pv 3) (pe_callTy call_strV (by rfl) T.b_str (by decide +kernel) (pa_cons (pv 2) pa_nil)))))))), rd_l_text h⟩)
theorem ok_l_number (T : Txt K mg C) : C8.Cal P w K mg base 1 "_law_number" (sp_l_number K C) [] :=
  C8.cal0 T.d_l_number T.bi_l_number .nil sc_l_number (fun vs H Q E h => by first | (obtain ⟨rfl, _⟩ := h; rfl) | (obtain ⟨_, rfl, _⟩ := h; rfl) | (obtain ⟨_, _, rfl, _⟩ := h; rfl) | (obtain ⟨_, _, _, rfl, _⟩ := h; rfl) | (obtain ⟨_, _, _, _, rfl, _⟩ := h; rfl) | (obtain ⟨_, _, _, _, _, rfl, _⟩ := h; rfl) | (obtain ⟨_, _, _, _, _, _, rfl, _⟩ := h; rfl) | (obtain ⟨_, _, _, _, _, _, _, rfl, _⟩ := h; rfl) | (obtain ⟨_, _, _, _, _, _, _, _, rfl, _⟩ := h; rfl)) (fun cdv A outer s H vs Q E hr h => ⟨t_l_number K C, (pss_cons (ps_if (PW.pt (pw_or (pt_cmpR op_eq (pv 0) pe_str (nomark _)) (pw_or (pt_cmpR op_gt (pe_callB call_lenS (by rfl) T.b_len (by decide +kernel) (pa_cons (pv 0) pa_nil)) pe_int (nomark _)) (pw_or (pt_cmpR op_ne (pe_bm PySem.F.plainAttrs_str PySem.F.slot_str_strip PySem.F.type_str_strip mt_stripQ (pv 0) (pa_cons pe_str pa_nil)) pe_str (nomark _)) (pw_or1 (PW.pt (pw_and (pt_cmpR op_eq (pe_ix ix_str (pv 0) pe_int (fun _ _ => rfl)) pe_str (nomark _)) (pw_and1 (pt_cmpR op_ne (pv 0) pe_str (nomark _)))))))))) (pss_one (ps_ret pe_bl)) pss_nil) (pss_one (ps_ret (pe_chain op_le op_le (pv 1) (pe_callTy call_intS (by rfl) T.b_int (by decide +kernel) (pa_cons (pv 0) pa_nil)) (pv 2))))), rd_l_number h⟩)
theorem ok_l_writes (T : Txt K mg C) : C8.Cal P w K mg base 2 "_law_writes" (sp_l_writes K C) [] :=
  C8.cal0 T.d_l_writes T.bi_l_writes .nil sc_l_writes (fun vs H Q E h => by first | (obtain ⟨rfl, _⟩ := h; rfl) | (obtain ⟨_, rfl, _⟩ := h; rfl) | (obtain ⟨_, _, rfl, _⟩ := h; rfl) | (obtain ⟨_, _, _, rfl, _⟩ := h; rfl) | (obtain ⟨_, _, _, _, rfl, _⟩ := h; rfl) | (obtain ⟨_, _, _, _, _, rfl, _⟩ := h; rfl) | (obtain ⟨_, _, _, _, _, _, rfl, _⟩ := h; rfl) | (obtain ⟨_, _, _, _, _, _, _, rfl, _⟩ := h; rfl) | (obtain ⟨_, _, _, _, _, _, _, _, rfl, _⟩ := h; rfl)) (fun cdv A outer s H vs Q E hr h => ⟨t_l_writes K C, (pss_cons (ps_if (pt_cmpR op_eq (pv 0) pe_str (nomark _)) (pss_one (ps_ret pe_bl)) pss_nil) (pss_cons (ps_for PassesOwn.never rfl (pi_list (pe_bm PySem.F.plainAttrs_str PySem.F.slot_str_split PySem.F.type_str_split mt_splitQ (pv 0) (pa_cons pe_str pa_nil))) (pg_name (i := 1) sc_l_writes.nd rfl (Or.inl rfl)) (pss_cons (ps_asg (pe_bm PySem.F.plainAttrs_str PySem.F.slot_str_partition PySem.F.type_str_partition mt_partQ (pv 1) (pa_cons pe_str pa_nil)) (pg_tup rfl (pgs_cons (pg_name (i := 2) sc_l_writes.nd rfl (Or.inl rfl)) (pgs_cons (pg_name (i := 3) sc_l_writes.nd rfl (Or.inl rfl)) (pgs_cons (pg_name (i := 4) sc_l_writes.nd rfl (Or.inl rfl)) pgs_nil))))) (pss_cons (ps_set (i := 5) sc_l_writes.nd rfl (Or.inl rfl) (pe_cmpR op_in_seq (pv 1) (pe_tup (pa_cons pe_str (pa_cons pe_str pa_nil))) (by rfl))) (pss_cons (ps_if (PW.pt (pw_and (pt_cmpR op_eq (pv 2) pe_str (nomark _)) (pw_and1 (pt_cmpR op_eq (pv 3) pe_str (nomark _))))) (pss_one (ps_set (i := 5) sc_l_writes.nd rfl (Or.inl rfl) (C8.pe_c (ok_l_number T) hr (by decide) rfl (pa_cons (pv 4) (pa_cons pe_int (pa_cons pe_int pa_nil)))))) pss_nil) (pss_cons (ps_if (PW.pt (pw_and (pt_cmpR op_eq (pv 2) pe_str (nomark _)) (pw_and1 (pt_cmpR op_eq (pv 3) pe_str (nomark _))))) (pss_one (ps_set (i := 5) sc_l_writes.nd rfl (Or.inl rfl) (C8.pe_c (ok_l_number T) hr (by decide) rfl (pa_cons (pv 4) (pa_cons pe_int (pa_cons pe_int pa_nil)))))) pss_nil) (pss_cons (ps_if (PW.pt (pw_and (pt_cmpR op_eq (pv 2) pe_str (nomark _)) (pw_and1 (pt_cmpR op_eq (pv 3) pe_str (nomark _))))) (pss_one (ps_set (i := 5) sc_l_writes.nd rfl (Or.inl rfl) (pe_cmpR op_in_seq (pv 4) (pe_tup (pa_cons pe_str (pa_cons pe_str pa_nil))) (by rfl)))) pss_nil) (pss_cons (ps_if (PW.pt (pw_and (pt_cmpR op_eq (pv 2) pe_str (nomark _)) (pw_and1 (pt_cmpR op_eq (pv 3) pe_str (nomark _))))) (pss_one (ps_set (i := 5) sc_l_writes.nd rfl (Or.inl rfl) (pe_and (pe_chain op_le op_le pe_int (pe_callB call_lenS (by rfl) T.b_len (by decide +kernel) (pa_cons (pv 4) pa_nil)) pe_int) (pe_one (pe_cmpR op_eq (pe_bm PySem.F.plainAttrs_str PySem.F.slot_str_strip PySem.F.type_str_strip mt_stripQ (pv 4) (pa_cons pe_str pa_nil)) pe_str (nomark _)))))) pss_nil) (pss_one (ps_if (pt_not (pt_val (pv 5))) (pss_one (ps_ret pe_bl)) pss_nil))))))))) (pss_one (ps_ret pe_bl)))), rd_l_writes h⟩)
theorem ok_l_refused (T : Txt K mg C) : C8.Cal P w K mg base 6 "_law_refused" (sp_l_refused K C) [] :=
  C8.cal0 T.d_l_refused T.bi_l_refused .nil sc_l_refused (fun vs H Q E h => by first | (obtain ⟨rfl, _⟩ := h; rfl) | (obtain ⟨_, rfl, _⟩ := h; rfl) | (obtain ⟨_, _, rfl, _⟩ := h; rfl) | (obtain ⟨_, _, _, rfl, _⟩ := h; rfl) | (obtain ⟨_, _, _, _, rfl, _⟩ := h; rfl) | (obtain ⟨_, _, _, _, _, rfl, _⟩ := h; rfl) | (obtain ⟨_, _, _, _, _, _, rfl, _⟩ := h; rfl) | (obtain ⟨_, _, _, _, _, _, _, rfl, _⟩ := h; rfl) | (obtain ⟨_, _, _, _, _, _, _, _, rfl, _⟩ := h; rfl)) (fun cdv A outer s H vs Q E hr h => ⟨t_l_refused K C, (pss_cons (L2.ps_try_as (i := 1) (tb := t_l_refused_b K C) (ts := t_l_refused_s K C) (Wout := fun _ _ _ _ => False) rfl rfl sc_l_refused.nd rfl rfl ⟨rfl, by decide, .inl T.X.gp⟩ takesF
      (fun W pn xe tk _ => pss_one (ps_expr (pe_cS (okb_p_read T) hr (by decide) rfl (fun σ => L2.passAt tk σ) (pa_cons (pv 0) pa_nil))))
      (fun a oe cls d pn hz hf => pss_cons (ps_set (i := 2) sc_l_refused.nd rfl (Or.inl rfl) (pe_or (pe_callB (call_isV hz hf) (by rfl) T.b_isinstance (by decide +kernel) (pa_cons (pv 1) (pa_cons (pe_glob rfl T.g_BadMove rfl) pa_nil))) (pe_or (pe_callB (call_isV hz hf) (by rfl) T.b_isinstance (by decide +kernel) (pa_cons (pv 1) (pa_cons (pe_glob rfl T.g_BadNumber rfl) pa_nil))) (pe_one (pe_callB (call_isV hz hf) (by rfl) T.b_isinstance (by decide +kernel) (pa_cons (pv 1) (pa_cons (pe_glob rfl T.g_BadOrder rfl) pa_nil))))))) (pss_one (ps_ret (pe_and (pe_callB (call_isV hz hf) (by rfl) T.b_isinstance (by decide +kernel) (pa_cons (pv 1) (pa_cons (pe_glob rfl T.g_BadText rfl) pa_nil))) (pe_and (pe_callB (call_isV hz hf) (by rfl) T.b_isinstance (by decide +kernel) (pa_cons (pv 1) (pa_cons (pe_bltn (v := .ty "ValueError") (by rfl) T.b_ValueError (by decide +kernel) rfl) pa_nil))) (pe_one (pe_not (pv 2)))))))))
    (pss_one (ps_ret pe_bl))), rd_l_refused T.X h⟩)
theorem ok_l_few (T : Txt K mg C) : C8.Cal P w K mg base 1 "_law_few" (sp_l_few K C) [] :=
  C8.cal0 T.d_l_few T.bi_l_few .nil sc_l_few (fun vs H Q E h => by first | (obtain ⟨rfl, _⟩ := h; rfl) | (obtain ⟨_, rfl, _⟩ := h; rfl) | (obtain ⟨_, _, rfl, _⟩ := h; rfl) | (obtain ⟨_, _, _, rfl, _⟩ := h; rfl) | (obtain ⟨_, _, _, _, rfl, _⟩ := h; rfl) | (obtain ⟨_, _, _, _, _, rfl, _⟩ := h; rfl) | (obtain ⟨_, _, _, _, _, _, rfl, _⟩ := h; rfl) | (obtain ⟨_, _, _, _, _, _, _, rfl, _⟩ := h; rfl) | (obtain ⟨_, _, _, _, _, _, _, _, rfl, _⟩ := h; rfl)) (fun cdv A outer s H vs Q E hr h => ⟨t_l_few K C, (pss_cons (ps_set (i := 0) sc_l_few.nd rfl (Or.inl rfl) (pe_lst (pa_cons pe_str (pa_cons pe_str (pa_cons pe_str (pa_cons pe_str (pa_cons pe_str (pa_cons pe_str (pa_cons pe_str (pa_cons pe_str (pa_cons pe_str (pa_cons pe_str (pa_cons pe_str pa_nil))))))))))))) (pss_cons (ps_set (i := 0) sc_l_few.nd rfl (Or.inl rfl) (pe_op op_cat (pv 0) (pe_lst (pa_cons pe_str (pa_cons pe_str (pa_cons pe_str (pa_cons pe_str (pa_cons pe_str (pa_cons pe_str (pa_cons pe_str (pa_cons pe_str (pa_cons pe_str (pa_cons pe_str pa_nil))))))))))))) (pss_cons (ps_set (i := 0) sc_l_few.nd rfl (Or.inl rfl) (pe_op op_cat (pv 0) (pe_lst (pa_cons pe_str (pa_cons pe_str (pa_cons pe_str (pa_cons pe_str (pa_cons (pe_op op_addS pe_str (pe_op op_mulS pe_str pe_int)) (pa_cons (pe_op op_addS pe_str (pe_op op_mulS pe_str pe_int)) pa_nil))))))))) (pss_one (ps_ret (pe_op op_cat (pv 0) (pe_lst (pa_cons pe_str (pa_cons pe_str (pa_cons pe_str (pa_cons pe_str pa_nil))))))))))), rd_l_few h⟩)
theorem ok_law (T : Txt K mg C) : FnOk P w K mg base C8.CX0 7 T.f_law T.fd_law ["_law_script"] (spLaw K) :=
  C8.fn0 T.d_law.fn sc_law (fun vs H Q E h => by first | (obtain ⟨rfl, _⟩ := h; rfl) | (obtain ⟨_, rfl, _⟩ := h; rfl) | (obtain ⟨_, _, rfl, _⟩ := h; rfl) | (obtain ⟨_, _, _, rfl, _⟩ := h; rfl) | (obtain ⟨_, _, _, _, rfl, _⟩ := h; rfl) | (obtain ⟨_, _, _, _, _, rfl, _⟩ := h; rfl) | (obtain ⟨_, _, _, _, _, _, rfl, _⟩ := h; rfl) | (obtain ⟨_, _, _, _, _, _, _, rfl, _⟩ := h; rfl) | (obtain ⟨_, _, _, _, _, _, _, _, rfl, _⟩ := h; rfl)) (fun cdv A outer s H vs Q E hr h => ⟨t_law K C, (pss_cons (ps_set (i := 1) sc_law.nd rfl (Or.inl rfl) (C8.pe_c (ok_l_many T) hr (by decide) rfl (pa_cons (C8.pe_c (ok_l_cell_at T) hr (by decide) rfl (pa_cons (pv 0) (pa_cons pe_int pa_nil))) (pa_cons pe_int pa_nil)))) (pss_cons (ps_set (i := 2) sc_law.nd rfl (Or.inl rfl) (pe_lst pa_nil)) (pss_cons (ps_for PassesOwn.never rfl (pi_range1 rfl T.b_range (pa_cons (C8.pe_c (ok_l_draw T) hr (by decide) rfl (pa_cons (C8.pe_c (ok_l_cell_at T) hr (by decide) rfl (pa_cons (pv 0) (pa_cons pe_int pa_nil))) (pa_cons pe_int (pa_cons pe_int pa_nil)))) pa_nil)) (pg_name (i := 3) sc_law.nd rfl (Or.inl rfl)) (pss_one (ps_expr (pe_bm PySem.F.plainAttrs_list PySem.F.slot_list_append PySem.F.type_list_append mt_append (pv 2) (pa_cons (C8.pe_c (ok_l_told T) hr (by decide) rfl (pa_cons (pe_op op_add (C8.pe_c (ok_l_cell_at T) hr (by decide) rfl (pa_cons (pv 0) (pa_cons (pe_op op_add pe_int (pv 3)) pa_nil))) (pe_op op_mul pe_int (pv 3))) (pa_cons (pv 1) pa_nil))) pa_nil))))) (pss_cons (ps_set (i := 4) sc_law.nd rfl (Or.inl rfl) (pe_bm PySem.F.plainAttrs_str PySem.F.slot_str_join PySem.F.type_str_join mt_joinQ pe_str (pa_cons (pe_lc (own := [("_law_one", 5)]) (g := gName 5) (tt := tYes) rfl sc_law.nd (pi_list (pv 2)) (blkOk_by (own := [("_law_one", 5)]) (N := ["_law_script", "_law_many_here", "_law_told_here", "_law_k", "_law_text_here", "_law_one", "_law_handed", "_law_found", "_law_order_here", "_law_now", "_law_cell", "_law_at", "_law_sign", "_law_other"]) (sc := defScope s_law) (by decide +kernel)) (fun _ _ _ _ _ => pg_name (i := 5) sc_law.nd rfl (Or.inl rfl)) (fun _ _ _ _ _ => pts_nil) (fun _ _ _ _ _ => (C8.pe_c (ok_l_text T) hr (by decide) rfl (pa_cons (pv 5) pa_nil)))) pa_nil))) (pss_cons (ps_setLc (i := 6) (own := [("_law_one", 5)]) (g := gName 5) (tt := tYes) rfl sc_law.nd rfl rfl (sw_true rfl rfl rfl (by decide +kernel)) (pi_list (pv 2)) (blkOk_by (own := [("_law_one", 5)]) (N := ["_law_script", "_law_many_here", "_law_told_here", "_law_k", "_law_text_here", "_law_one", "_law_handed", "_law_found", "_law_order_here", "_law_now", "_law_cell", "_law_at", "_law_sign", "_law_other"]) (sc := defScope s_law) (by decide +kernel)) (fun _ _ _ _ _ => pg_name (i := 5) sc_law.nd rfl (Or.inl rfl)) (fun _ _ _ _ _ => pts_nil) (fun _ _ _ _ _ => (C8.pe_c (ok_l_made T) hr (by decide) rfl (pa_cons (pv 5) pa_nil)))) (pss_cons (ps_if (PW.pt (pw_or (pt_cmpR op_ne (C8.pe_c (ok_p_written T) hr (by decide) rfl (pa_cons (pv 6) pa_nil)) (pv 4) (nomark _)) (pw_or1 (pt_cmpR op_ne (pe_callB call_lenQ (by rfl) T.b_len (by decide +kernel) (pa_cons (pv 6) pa_nil)) (pe_callB call_lenQ (by rfl) T.b_len (by decide +kernel) (pa_cons (pv 2) pa_nil)) (nomark _))))) (pss_one (ps_ret pe_bl)) pss_nil) (pss_cons (ps_set (i := 7) sc_law.nd rfl (Or.inl rfl) (C8.pe_c (ok_p_read T) hr (by decide) rfl (pa_cons (pv 4) pa_nil))) (pss_cons (ps_if (PW.pt (pw_or (pt_not (pt_val (pe_callB call_isi (by rfl) T.b_isinstance (by decide +kernel) (pa_cons (pv 7) (pa_cons (pe_bltn (v := .ty "list") (by rfl) T.b_list (by decide +kernel) rfl) pa_nil))))) (pw_or1 (pt_cmpR op_ne (C8.pe_c (ok_p_written T) hr (by decide) rfl (pa_cons (pv 7) pa_nil)) (pv 4) (nomark _))))) (pss_one (ps_ret pe_bl)) pss_nil) (pss_cons (ps_set (i := 8) sc_law.nd rfl (Or.inl rfl) (C8.pe_c (ok_l_order T) hr (by decide) rfl (pa_cons (C8.pe_c (ok_l_cell_at T) hr (by decide) rfl (pa_cons (pv 0) (pa_cons pe_int pa_nil))) (pa_cons (pv 1) pa_nil)))) (pss_cons (ps_set (i := 9) sc_law.nd rfl (Or.inl rfl) (pe_callTy call_listOf (by rfl) T.b_list (by decide +kernel) (pa_cons (pv 8) pa_nil))) (pss_cons (ps_for PassesOwn.never rfl (pi_list (pv 2)) (pg_name (i := 5) sc_law.nd rfl (Or.inl rfl)) (pss_one (ps_set (i := 9) sc_law.nd rfl (Or.inl rfl) (C8.pe_c (ok_l_moved T) hr (by decide) rfl (pa_cons (pv 9) (pa_cons (pv 5) pa_nil)))))) (pss_cons (ps_if (pt_cmpR (op_neD hr.units) (C8.pe_c (ok_p_done_all T) hr (by decide) rfl (pa_cons (pv 7) (pa_cons (pv 8) pa_nil))) (pv 9) (nomark _)) (pss_one (ps_ret pe_bl)) pss_nil) (pss_cons (ps_expr (pe_bm PySem.F.plainAttrs_list PySem.F.slot_list_append PySem.F.type_list_append mt_append (pv 7) (pa_cons pe_int pa_nil))) (pss_cons (ps_if (pt_cmpR op_ne (C8.pe_c (ok_p_written T) hr (by decide) rfl (pa_cons (C8.pe_c (ok_p_read T) hr (by decide) rfl (pa_cons (pv 4) pa_nil)) pa_nil)) (pv 4) (nomark _)) (pss_one (ps_ret pe_bl)) pss_nil) (pss_cons (ps_set (i := 10) sc_law.nd rfl (Or.inl rfl) (pe_op op_add (pe_op op_add (C8.pe_c (ok_l_cell_at T) hr (by decide) rfl (pa_cons (pv 0) (pa_cons pe_int pa_nil))) (pe_op op_mul pe_int (C8.pe_c (ok_l_cell_at T) hr (by decide) rfl (pa_cons (pv 0) (pa_cons pe_int pa_nil))))) (pe_op op_mul pe_int (C8.pe_c (ok_l_cell_at T) hr (by decide) rfl (pa_cons (pv 0) (pa_cons pe_int pa_nil)))))) (pss_cons (ps_set (i := 11) sc_law.nd rfl (Or.inl rfl) (C8.pe_c (ok_l_draw T) hr (by decide) rfl (pa_cons (pv 10) (pa_cons pe_int (pa_cons (pe_op op_add (pe_callB call_lenS (by rfl) T.b_len (by decide +kernel) (pa_cons (pv 4) pa_nil)) pe_int) pa_nil))))) (pss_cons (ps_set (i := 12) sc_law.nd rfl (Or.inl rfl) (pe_ix ix_str pe_str (C8.pe_c (ok_l_draw T) hr (by decide) rfl (pa_cons (pv 10) (pa_cons pe_int (pa_cons pe_int pa_nil)))) (fun _ _ => rfl))) (pss_cons (ps_set (i := 12) sc_law.nd rfl (Or.inl rfl) (pe_ix ix_tup (pe_tup (pa_cons pe_str (pa_cons (pv 12) (pa_cons (pv 12) pa_nil)))) (C8.pe_c (ok_l_draw T) hr (by decide) rfl (pa_cons (pv 10) (pa_cons pe_int (pa_cons pe_int pa_nil)))) (fun _ _ => rfl))) (pss_cons (ps_set (i := 13) sc_law.nd rfl (Or.inl rfl) (pe_op op_addS (pe_op op_addS (pe_slice C8.sl_txt (pv 4) po_none (po_some (pv 11))) (pv 12)) (pe_slice C8.sl_txt (pv 4) (po_some (pe_op op_add (pv 11) (C8.pe_c (ok_l_draw T) hr (by decide) rfl (pa_cons (pv 10) (pa_cons pe_int (pa_cons pe_int pa_nil)))))) po_none))) (pss_cons (ps_for PassesOwn.never rfl (pi_list (pe_op op_cat (pe_lst (pa_cons (pv 13) pa_nil)) (pe_c0 (ok_l_few T) hr (by decide) rfl))) (pg_name (i := 5) sc_law.nd rfl (Or.inl rfl)) (pss_one (ps_if (pt_val (C8.pe_c (ok_l_writes T) hr (by decide) rfl (pa_cons (pv 5) pa_nil))) (pss_one (ps_if (pt_cmpR op_ne (C8.pe_c (ok_p_written T) hr (by decide) rfl (pa_cons (C8.pe_c (ok_p_read T) hr (by decide) rfl (pa_cons (pv 5) pa_nil)) pa_nil)) (pv 5) (nomark _)) (pss_one (ps_ret pe_bl)) pss_nil)) (pss_one (ps_if (pt_not (pt_val (C8.pe_c (ok_l_refused T) hr (by decide) rfl (pa_cons (pv 5) pa_nil)))) (pss_one (ps_ret pe_bl)) pss_nil))))) (pss_one (ps_ret (pe_and (C8.pe_c (ok_l_refused T) hr (by decide) rfl (pa_cons pe_non pa_nil)) (pe_and (C8.pe_c (ok_l_refused T) hr (by decide) rfl (pa_cons pe_int pa_nil)) (pe_one (C8.pe_c (ok_l_refused T) hr (by decide) rfl (pa_cons (pe_lst (pa_cons pe_str pa_nil)) pa_nil))))))))))))))))))))))))))), rd_law T.F h⟩)
end
theorem all_mk {l : PySem.W.OpenLaw} {w : World} {K : PySem.W.Frag} {h : Heap} {mg : Str → Option Value} {fa : Addr} (X : K.In h) (G : h.Ns mainGlobals mg) (hfa : mg "law" = some (.ref fa))
    {cPackError cBadOrder cBadMove cBadNumber cBadText cMove cCut cTurn cDeal cUnder cWeave cRiffle : Addr}
    {f_p_within : Addr} {od1 an1 : Option Addr} {sl1 : Array (Option Value)} {oc1 kV1 dc1 pm1 cd1 ct1 : Value}
    {f_p_check_order : Addr} {od2 an2 : Option Addr} {sl2 : Array (Option Value)} {oc2 kV2 dc2 pm2 cd2 ct2 : Value}
    {f_p_Move_done : Addr} {od3 an3 : Option Addr} {sl3 : Array (Option Value)} {oc3 kV3 dc3 pm3 cd3 ct3 : Value}
    {f_p_Cut_init : Addr} {od4 an4 : Option Addr} {sl4 : Array (Option Value)} {oc4 kV4 dc4 pm4 cd4 ct4 : Value}
    {f_p_Cut_came : Addr} {od5 an5 : Option Addr} {sl5 : Array (Option Value)} {oc5 kV5 dc5 pm5 cd5 ct5 : Value}
    {f_p_Turn_came : Addr} {od6 an6 : Option Addr} {sl6 : Array (Option Value)} {oc6 kV6 dc6 pm6 cd6 ct6 : Value}
    {f_p_Deal_init : Addr} {od7 an7 : Option Addr} {sl7 : Array (Option Value)} {oc7 kV7 dc7 pm7 cd7 ct7 : Value}
    {f_p_Deal_came : Addr} {od8 an8 : Option Addr} {sl8 : Array (Option Value)} {oc8 kV8 dc8 pm8 cd8 ct8 : Value}
    {f_p_Under_came : Addr} {od9 an9 : Option Addr} {sl9 : Array (Option Value)} {oc9 kV9 dc9 pm9 cd9 ct9 : Value}
    {f_p_Weave_init : Addr} {od10 an10 : Option Addr} {sl10 : Array (Option Value)} {oc10 kV10 dc10 pm10 cd10 ct10 : Value}
    {f_p_Weave_came : Addr} {od11 an11 : Option Addr} {sl11 : Array (Option Value)} {oc11 kV11 dc11 pm11 cd11 ct11 : Value}
    {f_p_Riffle_init : Addr} {od12 an12 : Option Addr} {sl12 : Array (Option Value)} {oc12 kV12 dc12 pm12 cd12 ct12 : Value}
    {f_p_Riffle_came : Addr} {od13 an13 : Option Addr} {sl13 : Array (Option Value)} {oc13 kV13 dc13 pm13 cd13 ct13 : Value}
    {f_p_check_moves : Addr} {od14 an14 : Option Addr} {sl14 : Array (Option Value)} {oc14 kV14 dc14 pm14 cd14 ct14 : Value}
    {f_p_done_all : Addr} {od15 an15 : Option Addr} {sl15 : Array (Option Value)} {oc15 kV15 dc15 pm15 cd15 ct15 : Value}
    {f_p_move_text : Addr} {od16 an16 : Option Addr} {sl16 : Array (Option Value)} {oc16 kV16 dc16 pm16 cd16 ct16 : Value}
    {f_p_written : Addr} {od17 an17 : Option Addr} {sl17 : Array (Option Value)} {oc17 kV17 dc17 pm17 cd17 ct17 : Value}
    {f_p_number_in : Addr} {od18 an18 : Option Addr} {sl18 : Array (Option Value)} {oc18 kV18 dc18 pm18 cd18 ct18 : Value}
    {f_p_move_in : Addr} {od19 an19 : Option Addr} {sl19 : Array (Option Value)} {oc19 kV19 dc19 pm19 cd19 ct19 : Value}
    {f_p_read : Addr} {od20 an20 : Option Addr} {sl20 : Array (Option Value)} {oc20 kV20 dc20 pm20 cd20 ct20 : Value}
    {f_l_cell_at : Addr} {od21 an21 : Option Addr} {sl21 : Array (Option Value)} {oc21 kV21 dc21 pm21 cd21 ct21 : Value}
    {f_l_draw : Addr} {od22 an22 : Option Addr} {sl22 : Array (Option Value)} {oc22 kV22 dc22 pm22 cd22 ct22 : Value}
    {f_l_order : Addr} {od23 an23 : Option Addr} {sl23 : Array (Option Value)} {oc23 kV23 dc23 pm23 cd23 ct23 : Value}
    {f_l_many : Addr} {od24 an24 : Option Addr} {sl24 : Array (Option Value)} {oc24 kV24 dc24 pm24 cd24 ct24 : Value}
    {f_l_word : Addr} {od25 an25 : Option Addr} {sl25 : Array (Option Value)} {oc25 kV25 dc25 pm25 cd25 ct25 : Value}
    {f_l_riffled : Addr} {od26 an26 : Option Addr} {sl26 : Array (Option Value)} {oc26 kV26 dc26 pm26 cd26 ct26 : Value}
    {f_l_dealt : Addr} {od27 an27 : Option Addr} {sl27 : Array (Option Value)} {oc27 kV27 dc27 pm27 cd27 ct27 : Value}
    {f_l_under : Addr} {od28 an28 : Option Addr} {sl28 : Array (Option Value)} {oc28 kV28 dc28 pm28 cd28 ct28 : Value}
    {f_l_moved : Addr} {od29 an29 : Option Addr} {sl29 : Array (Option Value)} {oc29 kV29 dc29 pm29 cd29 ct29 : Value}
    {f_l_told : Addr} {od30 an30 : Option Addr} {sl30 : Array (Option Value)} {oc30 kV30 dc30 pm30 cd30 ct30 : Value}
    {f_l_made : Addr} {od31 an31 : Option Addr} {sl31 : Array (Option Value)} {oc31 kV31 dc31 pm31 cd31 ct31 : Value}
    {f_l_text : Addr} {od32 an32 : Option Addr} {sl32 : Array (Option Value)} {oc32 kV32 dc32 pm32 cd32 ct32 : Value}
    {f_l_number : Addr} {od33 an33 : Option Addr} {sl33 : Array (Option Value)} {oc33 kV33 dc33 pm33 cd33 ct33 : Value}
    {f_l_writes : Addr} {od34 an34 : Option Addr} {sl34 : Array (Option Value)} {oc34 kV34 dc34 pm34 cd34 ct34 : Value}
    {f_l_refused : Addr} {od35 an35 : Option Addr} {sl35 : Array (Option Value)} {oc35 kV35 dc35 pm35 cd35 ct35 : Value}
    {f_l_few : Addr} {od36 an36 : Option Addr} {sl36 : Array (Option Value)} {oc36 kV36 dc36 pm36 cd36 ct36 : Value}
    {f_law : Addr} {od37 an37 : Option Addr} {sl37 : Array (Option Value)} {oc37 kV37 dc37 pm37 cd37 ct37 : Value}
    {t_FIGURES : Tok}
    {t_MOST : Tok}
    (g_PackError : PySem.W.nsIn K mainGlobals "PackError" = some (some (.ref cPackError)))
    (g_BadOrder : PySem.W.nsIn K mainGlobals "BadOrder" = some (some (.ref cBadOrder)))
    (g_BadMove : PySem.W.nsIn K mainGlobals "BadMove" = some (some (.ref cBadMove)))
    (g_BadNumber : PySem.W.nsIn K mainGlobals "BadNumber" = some (some (.ref cBadNumber)))
    (g_BadText : PySem.W.nsIn K mainGlobals "BadText" = some (some (.ref cBadText)))
    (g_Move : PySem.W.nsIn K mainGlobals "Move" = some (some (.ref cMove)))
    (g_Cut : PySem.W.nsIn K mainGlobals "Cut" = some (some (.ref cCut)))
    (g_Turn : PySem.W.nsIn K mainGlobals "Turn" = some (some (.ref cTurn)))
    (g_Deal : PySem.W.nsIn K mainGlobals "Deal" = some (some (.ref cDeal)))
    (g_Under : PySem.W.nsIn K mainGlobals "Under" = some (some (.ref cUnder)))
    (g_Weave : PySem.W.nsIn K mainGlobals "Weave" = some (some (.ref cWeave)))
    (g_Riffle : PySem.W.nsIn K mainGlobals "Riffle" = some (some (.ref cRiffle)))
    (a_p_within : PySem.W.nsIn K mainGlobals "within" = some (some (.ref f_p_within)))
    (l_p_within : K.lookup f_p_within = some ⟨oc1, od1, .func (PySem.W.fnOf "within" "within" (C8.fnArgs s_p_within) (C8.fnBody s_p_within) (C8.fnScope s_p_within) .none kV1 dc1 pm1 an1 cd1 ct1), sl1⟩)
    (c_p_within : PySem.W.codeIn K cd1 "within" = true)
    (k_p_within : PySem.W.keepIn K (.ref f_p_within) = true)
    (a_p_check_order : PySem.W.nsIn K mainGlobals "check_order" = some (some (.ref f_p_check_order)))
    (l_p_check_order : K.lookup f_p_check_order = some ⟨oc2, od2, .func (PySem.W.fnOf "check_order" "check_order" (C8.fnArgs s_p_check_order) (C8.fnBody s_p_check_order) (C8.fnScope s_p_check_order) .none kV2 dc2 pm2 an2 cd2 ct2), sl2⟩)
    (c_p_check_order : PySem.W.codeIn K cd2 "check_order" = true)
    (k_p_check_order : PySem.W.keepIn K (.ref f_p_check_order) = true)
    (a_p_Move_done : PySem.W.findIn K (.ref cCut) "done" = some (some (.ref f_p_Move_done)))
    (i_p_Move_done : PySem.W.isFn K (.ref f_p_Move_done) = true)
    (l_p_Move_done : K.lookup f_p_Move_done = some ⟨oc3, od3, .func (PySem.W.fnOf "done" "Move.done" (C8.fnArgs s_p_Move_done) (C8.fnBody s_p_Move_done) (C8.fnScope s_p_Move_done) .none kV3 dc3 pm3 an3 cd3 ct3), sl3⟩)
    (c_p_Move_done : PySem.W.codeIn K cd3 "Move.done" = true)
    (k_p_Move_done : PySem.W.keepIn K (.ref f_p_Move_done) = true)
    (a_p_Cut_init : PySem.W.findIn K (.ref cCut) "__init__" = some (some (.ref f_p_Cut_init)))
    (i_p_Cut_init : PySem.W.isFn K (.ref f_p_Cut_init) = true)
    (l_p_Cut_init : K.lookup f_p_Cut_init = some ⟨oc4, od4, .func (PySem.W.fnOf "__init__" "Cut.__init__" (C8.fnArgs s_p_Cut_init) (C8.fnBody s_p_Cut_init) (C8.fnScope s_p_Cut_init) .none kV4 dc4 pm4 an4 cd4 ct4), sl4⟩)
    (c_p_Cut_init : PySem.W.codeIn K cd4 "Cut.__init__" = true)
    (k_p_Cut_init : PySem.W.keepIn K (.ref f_p_Cut_init) = true)
    (a_p_Cut_came : PySem.W.findIn K (.ref cCut) "came" = some (some (.ref f_p_Cut_came)))
    (i_p_Cut_came : PySem.W.isFn K (.ref f_p_Cut_came) = true)
    (l_p_Cut_came : K.lookup f_p_Cut_came = some ⟨oc5, od5, .func (PySem.W.fnOf "came" "Cut.came" (C8.fnArgs s_p_Cut_came) (C8.fnBody s_p_Cut_came) (C8.fnScope s_p_Cut_came) .none kV5 dc5 pm5 an5 cd5 ct5), sl5⟩)
    (c_p_Cut_came : PySem.W.codeIn K cd5 "Cut.came" = true)
    (k_p_Cut_came : PySem.W.keepIn K (.ref f_p_Cut_came) = true)
    (a_p_Turn_came : PySem.W.findIn K (.ref cTurn) "came" = some (some (.ref f_p_Turn_came)))
    (i_p_Turn_came : PySem.W.isFn K (.ref f_p_Turn_came) = true)
    (l_p_Turn_came : K.lookup f_p_Turn_came = some ⟨oc6, od6, .func (PySem.W.fnOf "came" "Turn.came" (C8.fnArgs s_p_Turn_came) (C8.fnBody s_p_Turn_came) (C8.fnScope s_p_Turn_came) .none kV6 dc6 pm6 an6 cd6 ct6), sl6⟩)
    (c_p_Turn_came : PySem.W.codeIn K cd6 "Turn.came" = true)
    (k_p_Turn_came : PySem.W.keepIn K (.ref f_p_Turn_came) = true)
    (a_p_Deal_init : PySem.W.findIn K (.ref cDeal) "__init__" = some (some (.ref f_p_Deal_init)))
    (i_p_Deal_init : PySem.W.isFn K (.ref f_p_Deal_init) = true)
    (l_p_Deal_init : K.lookup f_p_Deal_init = some ⟨oc7, od7, .func (PySem.W.fnOf "__init__" "Deal.__init__" (C8.fnArgs s_p_Deal_init) (C8.fnBody s_p_Deal_init) (C8.fnScope s_p_Deal_init) .none kV7 dc7 pm7 an7 cd7 ct7), sl7⟩)
    (c_p_Deal_init : PySem.W.codeIn K cd7 "Deal.__init__" = true)
    (k_p_Deal_init : PySem.W.keepIn K (.ref f_p_Deal_init) = true)
    (a_p_Deal_came : PySem.W.findIn K (.ref cDeal) "came" = some (some (.ref f_p_Deal_came)))
    (i_p_Deal_came : PySem.W.isFn K (.ref f_p_Deal_came) = true)
    (l_p_Deal_came : K.lookup f_p_Deal_came = some ⟨oc8, od8, .func (PySem.W.fnOf "came" "Deal.came" (C8.fnArgs s_p_Deal_came) (C8.fnBody s_p_Deal_came) (C8.fnScope s_p_Deal_came) .none kV8 dc8 pm8 an8 cd8 ct8), sl8⟩)
    (c_p_Deal_came : PySem.W.codeIn K cd8 "Deal.came" = true)
    (k_p_Deal_came : PySem.W.keepIn K (.ref f_p_Deal_came) = true)
    (a_p_Under_came : PySem.W.findIn K (.ref cUnder) "came" = some (some (.ref f_p_Under_came)))
    (i_p_Under_came : PySem.W.isFn K (.ref f_p_Under_came) = true)
    (l_p_Under_came : K.lookup f_p_Under_came = some ⟨oc9, od9, .func (PySem.W.fnOf "came" "Under.came" (C8.fnArgs s_p_Under_came) (C8.fnBody s_p_Under_came) (C8.fnScope s_p_Under_came) .none kV9 dc9 pm9 an9 cd9 ct9), sl9⟩)
    (c_p_Under_came : PySem.W.codeIn K cd9 "Under.came" = true)
    (k_p_Under_came : PySem.W.keepIn K (.ref f_p_Under_came) = true)
    (a_p_Weave_init : PySem.W.findIn K (.ref cWeave) "__init__" = some (some (.ref f_p_Weave_init)))
    (i_p_Weave_init : PySem.W.isFn K (.ref f_p_Weave_init) = true)
    (l_p_Weave_init : K.lookup f_p_Weave_init = some ⟨oc10, od10, .func (PySem.W.fnOf "__init__" "Weave.__init__" (C8.fnArgs s_p_Weave_init) (C8.fnBody s_p_Weave_init) (C8.fnScope s_p_Weave_init) .none kV10 dc10 pm10 an10 cd10 ct10), sl10⟩)
    (c_p_Weave_init : PySem.W.codeIn K cd10 "Weave.__init__" = true)
    (k_p_Weave_init : PySem.W.keepIn K (.ref f_p_Weave_init) = true)
    (a_p_Weave_came : PySem.W.findIn K (.ref cWeave) "came" = some (some (.ref f_p_Weave_came)))
    (i_p_Weave_came : PySem.W.isFn K (.ref f_p_Weave_came) = true)
    (l_p_Weave_came : K.lookup f_p_Weave_came = some ⟨oc11, od11, .func (PySem.W.fnOf "came" "Weave.came" (C8.fnArgs s_p_Weave_came) (C8.fnBody s_p_Weave_came) (C8.fnScope s_p_Weave_came) .none kV11 dc11 pm11 an11 cd11 ct11), sl11⟩)
    (c_p_Weave_came : PySem.W.codeIn K cd11 "Weave.came" = true)
    (k_p_Weave_came : PySem.W.keepIn K (.ref f_p_Weave_came) = true)
    (a_p_Riffle_init : PySem.W.findIn K (.ref cRiffle) "__init__" = some (some (.ref f_p_Riffle_init)))
    (i_p_Riffle_init : PySem.W.isFn K (.ref f_p_Riffle_init) = true)
    (l_p_Riffle_init : K.lookup f_p_Riffle_init = some ⟨oc12, od12, .func (PySem.W.fnOf "__init__" "Riffle.__init__" (C8.fnArgs s_p_Riffle_init) (C8.fnBody s_p_Riffle_init) (C8.fnScope s_p_Riffle_init) .none kV12 dc12 pm12 an12 cd12 ct12), sl12⟩)
    (c_p_Riffle_init : PySem.W.codeIn K cd12 "Riffle.__init__" = true)
    (k_p_Riffle_init : PySem.W.keepIn K (.ref f_p_Riffle_init) = true)
    (a_p_Riffle_came : PySem.W.findIn K (.ref cRiffle) "came" = some (some (.ref f_p_Riffle_came)))
    (i_p_Riffle_came : PySem.W.isFn K (.ref f_p_Riffle_came) = true)
    (l_p_Riffle_came : K.lookup f_p_Riffle_came = some ⟨oc13, od13, .func (PySem.W.fnOf "came" "Riffle.came" (C8.fnArgs s_p_Riffle_came) (C8.fnBody s_p_Riffle_came) (C8.fnScope s_p_Riffle_came) .none kV13 dc13 pm13 an13 cd13 ct13), sl13⟩)
    (c_p_Riffle_came : PySem.W.codeIn K cd13 "Riffle.came" = true)
    (k_p_Riffle_came : PySem.W.keepIn K (.ref f_p_Riffle_came) = true)
    (a_p_check_moves : PySem.W.nsIn K mainGlobals "check_moves" = some (some (.ref f_p_check_moves)))
    (l_p_check_moves : K.lookup f_p_check_moves = some ⟨oc14, od14, .func (PySem.W.fnOf "check_moves" "check_moves" (C8.fnArgs s_p_check_moves) (C8.fnBody s_p_check_moves) (C8.fnScope s_p_check_moves) .none kV14 dc14 pm14 an14 cd14 ct14), sl14⟩)
    (c_p_check_moves : PySem.W.codeIn K cd14 "check_moves" = true)
    (k_p_check_moves : PySem.W.keepIn K (.ref f_p_check_moves) = true)
    (a_p_done_all : PySem.W.nsIn K mainGlobals "done_all" = some (some (.ref f_p_done_all)))
    (l_p_done_all : K.lookup f_p_done_all = some ⟨oc15, od15, .func (PySem.W.fnOf "done_all" "done_all" (C8.fnArgs s_p_done_all) (C8.fnBody s_p_done_all) (C8.fnScope s_p_done_all) .none kV15 dc15 pm15 an15 cd15 ct15), sl15⟩)
    (c_p_done_all : PySem.W.codeIn K cd15 "done_all" = true)
    (k_p_done_all : PySem.W.keepIn K (.ref f_p_done_all) = true)
    (a_p_move_text : PySem.W.nsIn K mainGlobals "move_text" = some (some (.ref f_p_move_text)))
    (l_p_move_text : K.lookup f_p_move_text = some ⟨oc16, od16, .func (PySem.W.fnOf "move_text" "move_text" (C8.fnArgs s_p_move_text) (C8.fnBody s_p_move_text) (C8.fnScope s_p_move_text) .none kV16 dc16 pm16 an16 cd16 ct16), sl16⟩)
    (c_p_move_text : PySem.W.codeIn K cd16 "move_text" = true)
    (k_p_move_text : PySem.W.keepIn K (.ref f_p_move_text) = true)
    (a_p_written : PySem.W.nsIn K mainGlobals "written" = some (some (.ref f_p_written)))
    (l_p_written : K.lookup f_p_written = some ⟨oc17, od17, .func (PySem.W.fnOf "written" "written" (C8.fnArgs s_p_written) (C8.fnBody s_p_written) (C8.fnScope s_p_written) .none kV17 dc17 pm17 an17 cd17 ct17), sl17⟩)
    (c_p_written : PySem.W.codeIn K cd17 "written" = true)
    (k_p_written : PySem.W.keepIn K (.ref f_p_written) = true)
    (a_p_number_in : PySem.W.nsIn K mainGlobals "number_in" = some (some (.ref f_p_number_in)))
    (l_p_number_in : K.lookup f_p_number_in = some ⟨oc18, od18, .func (PySem.W.fnOf "number_in" "number_in" (C8.fnArgs s_p_number_in) (C8.fnBody s_p_number_in) (C8.fnScope s_p_number_in) .none kV18 dc18 pm18 an18 cd18 ct18), sl18⟩)
    (c_p_number_in : PySem.W.codeIn K cd18 "number_in" = true)
    (k_p_number_in : PySem.W.keepIn K (.ref f_p_number_in) = true)
    (a_p_move_in : PySem.W.nsIn K mainGlobals "move_in" = some (some (.ref f_p_move_in)))
    (l_p_move_in : K.lookup f_p_move_in = some ⟨oc19, od19, .func (PySem.W.fnOf "move_in" "move_in" (C8.fnArgs s_p_move_in) (C8.fnBody s_p_move_in) (C8.fnScope s_p_move_in) .none kV19 dc19 pm19 an19 cd19 ct19), sl19⟩)
    (c_p_move_in : PySem.W.codeIn K cd19 "move_in" = true)
    (k_p_move_in : PySem.W.keepIn K (.ref f_p_move_in) = true)
    (a_p_read : PySem.W.nsIn K mainGlobals "read" = some (some (.ref f_p_read)))
    (l_p_read : K.lookup f_p_read = some ⟨oc20, od20, .func (PySem.W.fnOf "read" "read" (C8.fnArgs s_p_read) (C8.fnBody s_p_read) (C8.fnScope s_p_read) .none kV20 dc20 pm20 an20 cd20 ct20), sl20⟩)
    (c_p_read : PySem.W.codeIn K cd20 "read" = true)
    (k_p_read : PySem.W.keepIn K (.ref f_p_read) = true)
    (a_l_cell_at : PySem.W.nsIn K mainGlobals "_law_cell_at" = some (some (.ref f_l_cell_at)))
    (l_l_cell_at : K.lookup f_l_cell_at = some ⟨oc21, od21, .func (PySem.W.fnOf "_law_cell_at" "_law_cell_at" (C8.fnArgs s_l_cell_at) (C8.fnBody s_l_cell_at) (C8.fnScope s_l_cell_at) .none kV21 dc21 pm21 an21 cd21 ct21), sl21⟩)
    (c_l_cell_at : PySem.W.codeIn K cd21 "_law_cell_at" = true)
    (k_l_cell_at : PySem.W.keepIn K (.ref f_l_cell_at) = true)
    (a_l_draw : PySem.W.nsIn K mainGlobals "_law_draw" = some (some (.ref f_l_draw)))
    (l_l_draw : K.lookup f_l_draw = some ⟨oc22, od22, .func (PySem.W.fnOf "_law_draw" "_law_draw" (C8.fnArgs s_l_draw) (C8.fnBody s_l_draw) (C8.fnScope s_l_draw) .none kV22 dc22 pm22 an22 cd22 ct22), sl22⟩)
    (c_l_draw : PySem.W.codeIn K cd22 "_law_draw" = true)
    (k_l_draw : PySem.W.keepIn K (.ref f_l_draw) = true)
    (a_l_order : PySem.W.nsIn K mainGlobals "_law_order" = some (some (.ref f_l_order)))
    (l_l_order : K.lookup f_l_order = some ⟨oc23, od23, .func (PySem.W.fnOf "_law_order" "_law_order" (C8.fnArgs s_l_order) (C8.fnBody s_l_order) (C8.fnScope s_l_order) .none kV23 dc23 pm23 an23 cd23 ct23), sl23⟩)
    (c_l_order : PySem.W.codeIn K cd23 "_law_order" = true)
    (k_l_order : PySem.W.keepIn K (.ref f_l_order) = true)
    (a_l_many : PySem.W.nsIn K mainGlobals "_law_many" = some (some (.ref f_l_many)))
    (l_l_many : K.lookup f_l_many = some ⟨oc24, od24, .func (PySem.W.fnOf "_law_many" "_law_many" (C8.fnArgs s_l_many) (C8.fnBody s_l_many) (C8.fnScope s_l_many) .none kV24 dc24 pm24 an24 cd24 ct24), sl24⟩)
    (c_l_many : PySem.W.codeIn K cd24 "_law_many" = true)
    (k_l_many : PySem.W.keepIn K (.ref f_l_many) = true)
    (a_l_word : PySem.W.nsIn K mainGlobals "_law_word" = some (some (.ref f_l_word)))
    (l_l_word : K.lookup f_l_word = some ⟨oc25, od25, .func (PySem.W.fnOf "_law_word" "_law_word" (C8.fnArgs s_l_word) (C8.fnBody s_l_word) (C8.fnScope s_l_word) .none kV25 dc25 pm25 an25 cd25 ct25), sl25⟩)
    (c_l_word : PySem.W.codeIn K cd25 "_law_word" = true)
    (k_l_word : PySem.W.keepIn K (.ref f_l_word) = true)
    (a_l_riffled : PySem.W.nsIn K mainGlobals "_law_riffled" = some (some (.ref f_l_riffled)))
    (l_l_riffled : K.lookup f_l_riffled = some ⟨oc26, od26, .func (PySem.W.fnOf "_law_riffled" "_law_riffled" (C8.fnArgs s_l_riffled) (C8.fnBody s_l_riffled) (C8.fnScope s_l_riffled) .none kV26 dc26 pm26 an26 cd26 ct26), sl26⟩)
    (c_l_riffled : PySem.W.codeIn K cd26 "_law_riffled" = true)
    (k_l_riffled : PySem.W.keepIn K (.ref f_l_riffled) = true)
    (a_l_dealt : PySem.W.nsIn K mainGlobals "_law_dealt" = some (some (.ref f_l_dealt)))
    (l_l_dealt : K.lookup f_l_dealt = some ⟨oc27, od27, .func (PySem.W.fnOf "_law_dealt" "_law_dealt" (C8.fnArgs s_l_dealt) (C8.fnBody s_l_dealt) (C8.fnScope s_l_dealt) .none kV27 dc27 pm27 an27 cd27 ct27), sl27⟩)
    (c_l_dealt : PySem.W.codeIn K cd27 "_law_dealt" = true)
    (k_l_dealt : PySem.W.keepIn K (.ref f_l_dealt) = true)
    (a_l_under : PySem.W.nsIn K mainGlobals "_law_under" = some (some (.ref f_l_under)))
    (l_l_under : K.lookup f_l_under = some ⟨oc28, od28, .func (PySem.W.fnOf "_law_under" "_law_under" (C8.fnArgs s_l_under) (C8.fnBody s_l_under) (C8.fnScope s_l_under) .none kV28 dc28 pm28 an28 cd28 ct28), sl28⟩)
    (c_l_under : PySem.W.codeIn K cd28 "_law_under" = true)
    (k_l_under : PySem.W.keepIn K (.ref f_l_under) = true)
    (a_l_moved : PySem.W.nsIn K mainGlobals "_law_moved" = some (some (.ref f_l_moved)))
    (l_l_moved : K.lookup f_l_moved = some ⟨oc29, od29, .func (PySem.W.fnOf "_law_moved" "_law_moved" (C8.fnArgs s_l_moved) (C8.fnBody s_l_moved) (C8.fnScope s_l_moved) .none kV29 dc29 pm29 an29 cd29 ct29), sl29⟩)
    (c_l_moved : PySem.W.codeIn K cd29 "_law_moved" = true)
    (k_l_moved : PySem.W.keepIn K (.ref f_l_moved) = true)
    (a_l_told : PySem.W.nsIn K mainGlobals "_law_told" = some (some (.ref f_l_told)))
    (l_l_told : K.lookup f_l_told = some ⟨oc30, od30, .func (PySem.W.fnOf "_law_told" "_law_told" (C8.fnArgs s_l_told) (C8.fnBody s_l_told) (C8.fnScope s_l_told) .none kV30 dc30 pm30 an30 cd30 ct30), sl30⟩)
    (c_l_told : PySem.W.codeIn K cd30 "_law_told" = true)
    (k_l_told : PySem.W.keepIn K (.ref f_l_told) = true)
    (a_l_made : PySem.W.nsIn K mainGlobals "_law_made" = some (some (.ref f_l_made)))
    (l_l_made : K.lookup f_l_made = some ⟨oc31, od31, .func (PySem.W.fnOf "_law_made" "_law_made" (C8.fnArgs s_l_made) (C8.fnBody s_l_made) (C8.fnScope s_l_made) .none kV31 dc31 pm31 an31 cd31 ct31), sl31⟩)
    (c_l_made : PySem.W.codeIn K cd31 "_law_made" = true)
    (k_l_made : PySem.W.keepIn K (.ref f_l_made) = true)
    (a_l_text : PySem.W.nsIn K mainGlobals "_law_text" = some (some (.ref f_l_text)))
    (l_l_text : K.lookup f_l_text = some ⟨oc32, od32, .func (PySem.W.fnOf "_law_text" "_law_text" (C8.fnArgs s_l_text) (C8.fnBody s_l_text) (C8.fnScope s_l_text) .none kV32 dc32 pm32 an32 cd32 ct32), sl32⟩)
    (c_l_text : PySem.W.codeIn K cd32 "_law_text" = true)
    (k_l_text : PySem.W.keepIn K (.ref f_l_text) = true)
    (a_l_number : PySem.W.nsIn K mainGlobals "_law_number" = some (some (.ref f_l_number)))
    (l_l_number : K.lookup f_l_number = some ⟨oc33, od33, .func (PySem.W.fnOf "_law_number" "_law_number" (C8.fnArgs s_l_number) (C8.fnBody s_l_number) (C8.fnScope s_l_number) .none kV33 dc33 pm33 an33 cd33 ct33), sl33⟩)
    (c_l_number : PySem.W.codeIn K cd33 "_law_number" = true)
    (k_l_number : PySem.W.keepIn K (.ref f_l_number) = true)
    (a_l_writes : PySem.W.nsIn K mainGlobals "_law_writes" = some (some (.ref f_l_writes)))
    (l_l_writes : K.lookup f_l_writes = some ⟨oc34, od34, .func (PySem.W.fnOf "_law_writes" "_law_writes" (C8.fnArgs s_l_writes) (C8.fnBody s_l_writes) (C8.fnScope s_l_writes) .none kV34 dc34 pm34 an34 cd34 ct34), sl34⟩)
    (c_l_writes : PySem.W.codeIn K cd34 "_law_writes" = true)
    (k_l_writes : PySem.W.keepIn K (.ref f_l_writes) = true)
    (a_l_refused : PySem.W.nsIn K mainGlobals "_law_refused" = some (some (.ref f_l_refused)))
    (l_l_refused : K.lookup f_l_refused = some ⟨oc35, od35, .func (PySem.W.fnOf "_law_refused" "_law_refused" (C8.fnArgs s_l_refused) (C8.fnBody s_l_refused) (C8.fnScope s_l_refused) .none kV35 dc35 pm35 an35 cd35 ct35), sl35⟩)
    (c_l_refused : PySem.W.codeIn K cd35 "_law_refused" = true)
    (k_l_refused : PySem.W.keepIn K (.ref f_l_refused) = true)
    (a_l_few : PySem.W.nsIn K mainGlobals "_law_few" = some (some (.ref f_l_few)))
    (l_l_few : K.lookup f_l_few = some ⟨oc36, od36, .func (PySem.W.fnOf "_law_few" "_law_few" (C8.fnArgs s_l_few) (C8.fnBody s_l_few) (C8.fnScope s_l_few) .none kV36 dc36 pm36 an36 cd36 ct36), sl36⟩)
    (c_l_few : PySem.W.codeIn K cd36 "_law_few" = true)
    (k_l_few : PySem.W.keepIn K (.ref f_l_few) = true)
    (a_law : PySem.W.nsIn K mainGlobals "law" = some (some (.ref f_law)))
    (l_law : K.lookup f_law = some ⟨oc37, od37, .func (PySem.W.fnOf "law" "law" (C8.fnArgs s_law) (C8.fnBody s_law) (C8.fnScope s_law) .none kV37 dc37 pm37 an37 cd37 ct37), sl37⟩)
    (c_law : PySem.W.codeIn K cd37 "law" = true)
    (k_law : PySem.W.keepIn K (.ref f_law) = true)
    (pg_Cut : PySem.W.plainGet K cCut Str.empty = true)
    (hd_Cut : PySem.W.hasDictIn K cCut = true)
    (po_Cut : PySem.W.plainOver K cCut = true)
    (sa_Cut : PySem.W.findIn K (.ref cCut) "__setattr__" = some (some (.builtin "object.__setattr__")))
    (mk_Cut : PySem.W.makesIn K cCut = true)
    (kc_Cut : PySem.W.keepIn K (.ref cCut) = true)
    (hc_Cut : PySem.W.findIn K (.ref cCut) "__class__" = some (some (.builtin "object.__class__")))
    (mo_Cut : PySem.W.mroIn K cCut (.type "object") = some true)
    (eq_Cut : PySem.W.findIn K (.ref cCut) "__eq__" = some (some (.builtin "object.__eq__")))
    (n_Cut_many : PySem.W.findIn K (.ref cCut) "many" = some none)
    (me_Cut_done : PySem.W.findIn K (.ref cCut) "done" = some (some (.ref f_p_Move_done)))
    (pg_Turn : PySem.W.plainGet K cTurn Str.empty = true)
    (hd_Turn : PySem.W.hasDictIn K cTurn = true)
    (po_Turn : PySem.W.plainOver K cTurn = true)
    (sa_Turn : PySem.W.findIn K (.ref cTurn) "__setattr__" = some (some (.builtin "object.__setattr__")))
    (mk_Turn : PySem.W.makesIn K cTurn = true)
    (kc_Turn : PySem.W.keepIn K (.ref cTurn) = true)
    (hc_Turn : PySem.W.findIn K (.ref cTurn) "__class__" = some (some (.builtin "object.__class__")))
    (mo_Turn : PySem.W.mroIn K cTurn (.type "object") = some true)
    (eq_Turn : PySem.W.findIn K (.ref cTurn) "__eq__" = some (some (.builtin "object.__eq__")))
    (oi_Turn : PySem.W.findIn K (.ref cTurn) "__init__" = some (some (.builtin "object.__init__")))
    (me_Turn_done : PySem.W.findIn K (.ref cTurn) "done" = some (some (.ref f_p_Move_done)))
    (pg_Deal : PySem.W.plainGet K cDeal Str.empty = true)
    (hd_Deal : PySem.W.hasDictIn K cDeal = true)
    (po_Deal : PySem.W.plainOver K cDeal = true)
    (sa_Deal : PySem.W.findIn K (.ref cDeal) "__setattr__" = some (some (.builtin "object.__setattr__")))
    (mk_Deal : PySem.W.makesIn K cDeal = true)
    (kc_Deal : PySem.W.keepIn K (.ref cDeal) = true)
    (hc_Deal : PySem.W.findIn K (.ref cDeal) "__class__" = some (some (.builtin "object.__class__")))
    (mo_Deal : PySem.W.mroIn K cDeal (.type "object") = some true)
    (eq_Deal : PySem.W.findIn K (.ref cDeal) "__eq__" = some (some (.builtin "object.__eq__")))
    (n_Deal_piles : PySem.W.findIn K (.ref cDeal) "piles" = some none)
    (me_Deal_done : PySem.W.findIn K (.ref cDeal) "done" = some (some (.ref f_p_Move_done)))
    (pg_Under : PySem.W.plainGet K cUnder Str.empty = true)
    (hd_Under : PySem.W.hasDictIn K cUnder = true)
    (po_Under : PySem.W.plainOver K cUnder = true)
    (sa_Under : PySem.W.findIn K (.ref cUnder) "__setattr__" = some (some (.builtin "object.__setattr__")))
    (mk_Under : PySem.W.makesIn K cUnder = true)
    (kc_Under : PySem.W.keepIn K (.ref cUnder) = true)
    (hc_Under : PySem.W.findIn K (.ref cUnder) "__class__" = some (some (.builtin "object.__class__")))
    (mo_Under : PySem.W.mroIn K cUnder (.type "object") = some true)
    (eq_Under : PySem.W.findIn K (.ref cUnder) "__eq__" = some (some (.builtin "object.__eq__")))
    (oi_Under : PySem.W.findIn K (.ref cUnder) "__init__" = some (some (.builtin "object.__init__")))
    (me_Under_done : PySem.W.findIn K (.ref cUnder) "done" = some (some (.ref f_p_Move_done)))
    (pg_Weave : PySem.W.plainGet K cWeave Str.empty = true)
    (hd_Weave : PySem.W.hasDictIn K cWeave = true)
    (po_Weave : PySem.W.plainOver K cWeave = true)
    (sa_Weave : PySem.W.findIn K (.ref cWeave) "__setattr__" = some (some (.builtin "object.__setattr__")))
    (mk_Weave : PySem.W.makesIn K cWeave = true)
    (kc_Weave : PySem.W.keepIn K (.ref cWeave) = true)
    (hc_Weave : PySem.W.findIn K (.ref cWeave) "__class__" = some (some (.builtin "object.__class__")))
    (mo_Weave : PySem.W.mroIn K cWeave (.type "object") = some true)
    (eq_Weave : PySem.W.findIn K (.ref cWeave) "__eq__" = some (some (.builtin "object.__eq__")))
    (n_Weave_first : PySem.W.findIn K (.ref cWeave) "first" = some none)
    (me_Weave_done : PySem.W.findIn K (.ref cWeave) "done" = some (some (.ref f_p_Move_done)))
    (pg_Riffle : PySem.W.plainGet K cRiffle Str.empty = true)
    (hd_Riffle : PySem.W.hasDictIn K cRiffle = true)
    (po_Riffle : PySem.W.plainOver K cRiffle = true)
    (sa_Riffle : PySem.W.findIn K (.ref cRiffle) "__setattr__" = some (some (.builtin "object.__setattr__")))
    (mk_Riffle : PySem.W.makesIn K cRiffle = true)
    (kc_Riffle : PySem.W.keepIn K (.ref cRiffle) = true)
    (hc_Riffle : PySem.W.findIn K (.ref cRiffle) "__class__" = some (some (.builtin "object.__class__")))
    (mo_Riffle : PySem.W.mroIn K cRiffle (.type "object") = some true)
    (eq_Riffle : PySem.W.findIn K (.ref cRiffle) "__eq__" = some (some (.builtin "object.__eq__")))
    (n_Riffle_word : PySem.W.findIn K (.ref cRiffle) "word" = some none)
    (me_Riffle_done : PySem.W.findIn K (.ref cRiffle) "done" = some (some (.ref f_p_Move_done)))
    (sp_cls : PySem.W.specialIn K (.builtin "object.__class__") "__get__" = some (some (.builtin "getset_descriptor.__get__")))
    (tk_cls : PySem.W.takesIn K (.builtin "object.__class__") = some true)
    (sub_Cut_Cut : PySem.W.subIn K (.ref cCut) (.ref cCut) = some true)
    (sub_Cut_Turn : PySem.W.subIn K (.ref cCut) (.ref cTurn) = some false)
    (ne_Cut_Turn : (cCut == cTurn) = false)
    (sub_Cut_Deal : PySem.W.subIn K (.ref cCut) (.ref cDeal) = some false)
    (ne_Cut_Deal : (cCut == cDeal) = false)
    (sub_Cut_Under : PySem.W.subIn K (.ref cCut) (.ref cUnder) = some false)
    (ne_Cut_Under : (cCut == cUnder) = false)
    (sub_Cut_Weave : PySem.W.subIn K (.ref cCut) (.ref cWeave) = some false)
    (ne_Cut_Weave : (cCut == cWeave) = false)
    (sub_Cut_Riffle : PySem.W.subIn K (.ref cCut) (.ref cRiffle) = some false)
    (ne_Cut_Riffle : (cCut == cRiffle) = false)
    (sub_Cut_Move : PySem.W.subIn K (.ref cCut) (.ref cMove) = some true)
    (sub_Turn_Cut : PySem.W.subIn K (.ref cTurn) (.ref cCut) = some false)
    (ne_Turn_Cut : (cTurn == cCut) = false)
    (sub_Turn_Turn : PySem.W.subIn K (.ref cTurn) (.ref cTurn) = some true)
    (sub_Turn_Deal : PySem.W.subIn K (.ref cTurn) (.ref cDeal) = some false)
    (ne_Turn_Deal : (cTurn == cDeal) = false)
    (sub_Turn_Under : PySem.W.subIn K (.ref cTurn) (.ref cUnder) = some false)
    (ne_Turn_Under : (cTurn == cUnder) = false)
    (sub_Turn_Weave : PySem.W.subIn K (.ref cTurn) (.ref cWeave) = some false)
    (ne_Turn_Weave : (cTurn == cWeave) = false)
    (sub_Turn_Riffle : PySem.W.subIn K (.ref cTurn) (.ref cRiffle) = some false)
    (ne_Turn_Riffle : (cTurn == cRiffle) = false)
    (sub_Turn_Move : PySem.W.subIn K (.ref cTurn) (.ref cMove) = some true)
    (sub_Deal_Cut : PySem.W.subIn K (.ref cDeal) (.ref cCut) = some false)
    (ne_Deal_Cut : (cDeal == cCut) = false)
    (sub_Deal_Turn : PySem.W.subIn K (.ref cDeal) (.ref cTurn) = some false)
    (ne_Deal_Turn : (cDeal == cTurn) = false)
    (sub_Deal_Deal : PySem.W.subIn K (.ref cDeal) (.ref cDeal) = some true)
    (sub_Deal_Under : PySem.W.subIn K (.ref cDeal) (.ref cUnder) = some false)
    (ne_Deal_Under : (cDeal == cUnder) = false)
    (sub_Deal_Weave : PySem.W.subIn K (.ref cDeal) (.ref cWeave) = some false)
    (ne_Deal_Weave : (cDeal == cWeave) = false)
    (sub_Deal_Riffle : PySem.W.subIn K (.ref cDeal) (.ref cRiffle) = some false)
    (ne_Deal_Riffle : (cDeal == cRiffle) = false)
    (sub_Deal_Move : PySem.W.subIn K (.ref cDeal) (.ref cMove) = some true)
    (sub_Under_Cut : PySem.W.subIn K (.ref cUnder) (.ref cCut) = some false)
    (ne_Under_Cut : (cUnder == cCut) = false)
    (sub_Under_Turn : PySem.W.subIn K (.ref cUnder) (.ref cTurn) = some false)
    (ne_Under_Turn : (cUnder == cTurn) = false)
    (sub_Under_Deal : PySem.W.subIn K (.ref cUnder) (.ref cDeal) = some false)
    (ne_Under_Deal : (cUnder == cDeal) = false)
    (sub_Under_Under : PySem.W.subIn K (.ref cUnder) (.ref cUnder) = some true)
    (sub_Under_Weave : PySem.W.subIn K (.ref cUnder) (.ref cWeave) = some false)
    (ne_Under_Weave : (cUnder == cWeave) = false)
    (sub_Under_Riffle : PySem.W.subIn K (.ref cUnder) (.ref cRiffle) = some false)
    (ne_Under_Riffle : (cUnder == cRiffle) = false)
    (sub_Under_Move : PySem.W.subIn K (.ref cUnder) (.ref cMove) = some true)
    (sub_Weave_Cut : PySem.W.subIn K (.ref cWeave) (.ref cCut) = some false)
    (ne_Weave_Cut : (cWeave == cCut) = false)
    (sub_Weave_Turn : PySem.W.subIn K (.ref cWeave) (.ref cTurn) = some false)
    (ne_Weave_Turn : (cWeave == cTurn) = false)
    (sub_Weave_Deal : PySem.W.subIn K (.ref cWeave) (.ref cDeal) = some false)
    (ne_Weave_Deal : (cWeave == cDeal) = false)
    (sub_Weave_Under : PySem.W.subIn K (.ref cWeave) (.ref cUnder) = some false)
    (ne_Weave_Under : (cWeave == cUnder) = false)
    (sub_Weave_Weave : PySem.W.subIn K (.ref cWeave) (.ref cWeave) = some true)
    (sub_Weave_Riffle : PySem.W.subIn K (.ref cWeave) (.ref cRiffle) = some false)
    (ne_Weave_Riffle : (cWeave == cRiffle) = false)
    (sub_Weave_Move : PySem.W.subIn K (.ref cWeave) (.ref cMove) = some true)
    (sub_Riffle_Cut : PySem.W.subIn K (.ref cRiffle) (.ref cCut) = some false)
    (ne_Riffle_Cut : (cRiffle == cCut) = false)
    (sub_Riffle_Turn : PySem.W.subIn K (.ref cRiffle) (.ref cTurn) = some false)
    (ne_Riffle_Turn : (cRiffle == cTurn) = false)
    (sub_Riffle_Deal : PySem.W.subIn K (.ref cRiffle) (.ref cDeal) = some false)
    (ne_Riffle_Deal : (cRiffle == cDeal) = false)
    (sub_Riffle_Under : PySem.W.subIn K (.ref cRiffle) (.ref cUnder) = some false)
    (ne_Riffle_Under : (cRiffle == cUnder) = false)
    (sub_Riffle_Weave : PySem.W.subIn K (.ref cRiffle) (.ref cWeave) = some false)
    (ne_Riffle_Weave : (cRiffle == cWeave) = false)
    (sub_Riffle_Riffle : PySem.W.subIn K (.ref cRiffle) (.ref cRiffle) = some true)
    (sub_Riffle_Move : PySem.W.subIn K (.ref cRiffle) (.ref cMove) = some true)
    (ic_Cut : PySem.W.isClsIn K cCut = true)
    (tc_Cut : PySem.W.typeIn K (.ref cCut) = some (.type "type"))
    (ic_Turn : PySem.W.isClsIn K cTurn = true)
    (tc_Turn : PySem.W.typeIn K (.ref cTurn) = some (.type "type"))
    (ic_Deal : PySem.W.isClsIn K cDeal = true)
    (tc_Deal : PySem.W.typeIn K (.ref cDeal) = some (.type "type"))
    (ic_Under : PySem.W.isClsIn K cUnder = true)
    (tc_Under : PySem.W.typeIn K (.ref cUnder) = some (.type "type"))
    (ic_Weave : PySem.W.isClsIn K cWeave = true)
    (tc_Weave : PySem.W.typeIn K (.ref cWeave) = some (.type "type"))
    (ic_Riffle : PySem.W.isClsIn K cRiffle = true)
    (tc_Riffle : PySem.W.typeIn K (.ref cRiffle) = some (.type "type"))
    (ic_Move : PySem.W.isClsIn K cMove = true)
    (tc_Move : PySem.W.typeIn K (.ref cMove) = some (.type "type"))
    (ex_BadText : PySem.W.excIn K cBadText veM "ValueError.__new__" = true)
    (ek_BadText : PySem.W.keepIn K (.ref cBadText) = true)
    (ex_BadMove : PySem.W.excIn K cBadMove veM "ValueError.__new__" = true)
    (ek_BadMove : PySem.W.keepIn K (.ref cBadMove) = true)
    (eb_BadText : PySem.W.subIn K (.ref cBadText) (.type "BaseException") = some true)
    (et_BadText : PySem.W.typeIn K (.ref cBadText) = some (.type "type"))
    (ed_BadText : PySem.W.hasDictIn K cBadText = true)
    (ei_BadText : PySem.W.isClsIn K cBadText = true)
    (eb_BadMove : PySem.W.subIn K (.ref cBadMove) (.type "BaseException") = some true)
    (et_BadMove : PySem.W.typeIn K (.ref cBadMove) = some (.type "type"))
    (ed_BadMove : PySem.W.hasDictIn K cBadMove = true)
    (ei_BadMove : PySem.W.isClsIn K cBadMove = true)
    (eb_BadNumber : PySem.W.subIn K (.ref cBadNumber) (.type "BaseException") = some true)
    (et_BadNumber : PySem.W.typeIn K (.ref cBadNumber) = some (.type "type"))
    (ed_BadNumber : PySem.W.hasDictIn K cBadNumber = true)
    (ei_BadNumber : PySem.W.isClsIn K cBadNumber = true)
    (eb_BadOrder : PySem.W.subIn K (.ref cBadOrder) (.type "BaseException") = some true)
    (et_BadOrder : PySem.W.typeIn K (.ref cBadOrder) = some (.type "type"))
    (ed_BadOrder : PySem.W.hasDictIn K cBadOrder = true)
    (ei_BadOrder : PySem.W.isClsIn K cBadOrder = true)
    (eb_PackError : PySem.W.subIn K (.ref cPackError) (.type "BaseException") = some true)
    (et_PackError : PySem.W.typeIn K (.ref cPackError) = some (.type "type"))
    (ed_PackError : PySem.W.hasDictIn K cPackError = true)
    (ei_PackError : PySem.W.isClsIn K cPackError = true)
    (es_BadText_BadText : PySem.W.subIn K (.ref cBadText) (.ref cBadText) = some true)
    (es_BadText_BadMove : PySem.W.subIn K (.ref cBadText) (.ref cBadMove) = some false)
    (ne_BadText_BadMove : (cBadText == cBadMove) = false)
    (es_BadText_BadNumber : PySem.W.subIn K (.ref cBadText) (.ref cBadNumber) = some false)
    (ne_BadText_BadNumber : (cBadText == cBadNumber) = false)
    (es_BadText_BadOrder : PySem.W.subIn K (.ref cBadText) (.ref cBadOrder) = some false)
    (ne_BadText_BadOrder : (cBadText == cBadOrder) = false)
    (es_BadText_PackError : PySem.W.subIn K (.ref cBadText) (.ref cPackError) = some true)
    (ne_BadText_PackError : (cBadText == cPackError) = false)
    (es_BadMove_BadMove : PySem.W.subIn K (.ref cBadMove) (.ref cBadMove) = some true)
    (es_BadText_VE : PySem.W.subIn K (.ref cBadText) (.type "ValueError") = some true)
    (ega : PySem.W.findIn K (.ref cBadText) "__getattribute__" = some (some (.builtin "BaseException.__getattribute__")))
    (egt : PySem.W.findIn K (.ref cBadText) "__getattr__" = some none)
    (eca : PySem.W.findIn K (.ref cBadText) "__class__" = some (some (.builtin "object.__class__")))
    (emo : PySem.W.mroIn K cBadText (.type "object") = some true)
    (b_ValueError : PySem.W.nsIn K mainGlobals "ValueError" = some none)
    (b_bool : PySem.W.nsIn K mainGlobals "bool" = some none)
    (b_int : PySem.W.nsIn K mainGlobals "int" = some none)
    (b_isinstance : PySem.W.nsIn K mainGlobals "isinstance" = some none)
    (b_len : PySem.W.nsIn K mainGlobals "len" = some none)
    (b_list : PySem.W.nsIn K mainGlobals "list" = some none)
    (b_range : PySem.W.nsIn K mainGlobals "range" = some none)
    (b_reversed : PySem.W.nsIn K mainGlobals "reversed" = some none)
    (b_set : PySem.W.nsIn K mainGlobals "set" = some none)
    (b_str : PySem.W.nsIn K mainGlobals "str" = some none)
    (v_FIGURES : PySem.W.nsIn K mainGlobals "FIGURES" = some (some (.str "0123456789" t_FIGURES)))
    (v_MOST : PySem.W.nsIn K mainGlobals "MOST" = some (some (.int 60 t_MOST)))
    : ∃ fd : FuncData, (∀ (s : Shared) (v : Value), BindsTo s fd ⟨[v], []⟩ [("_law_script", v)]) ∧ ∀ base : Heap, K.In base → base.Ns mainGlobals mg → FnOk l.prog w K mg base C8.CX0 7 fa fd ["_law_script"] (spLaw K) := by
  have e : f_law = fa := Value.ref.inj (Option.some.inj ((PySem.W.mg_of X G a_law).symm.trans hfa))
  subst e
  let C : Cl := ⟨cMove, cCut, cTurn, cDeal, cUnder, cWeave, cRiffle, 0, 0, 0, cPackError, cBadOrder, cBadMove, cBadNumber, cBadText, avK, prK⟩
  let T : Txt K mg C := { g_PackError := PySem.W.mg_of X G g_PackError, g_BadOrder := PySem.W.mg_of X G g_BadOrder, g_BadMove := PySem.W.mg_of X G g_BadMove, g_BadNumber := PySem.W.mg_of X G g_BadNumber, g_BadText := PySem.W.mg_of X G g_BadText, g_Move := PySem.W.mg_of X G g_Move, g_Cut := PySem.W.mg_of X G g_Cut, g_Turn := PySem.W.mg_of X G g_Turn, g_Deal := PySem.W.mg_of X G g_Deal, g_Under := PySem.W.mg_of X G g_Under, g_Weave := PySem.W.mg_of X G g_Weave, g_Riffle := PySem.W.mg_of X G g_Riffle, f_p_within := f_p_within, fd_p_within := PySem.W.fnOf "within" "within" (C8.fnArgs s_p_within) (C8.fnBody s_p_within) (C8.fnScope s_p_within) .none kV1 dc1 pm1 an1 cd1 ct1, d_p_within := ⟨⟨⟨oc1, od1, .none, kV1, dc1, pm1, an1, cd1, ct1, sl1, rfl, l_p_within, c_p_within⟩⟩, PySem.W.mg_of X G a_p_within, k_p_within⟩, bi_p_within := C8.Fun.binds (show C8.Fun K "within" "within" s_p_within f_p_within (PySem.W.fnOf "within" "within" (C8.fnArgs s_p_within) (C8.fnBody s_p_within) (C8.fnScope s_p_within) .none kV1 dc1 pm1 an1 cd1 ct1) from ⟨⟨oc1, od1, .none, kV1, dc1, pm1, an1, cd1, ct1, sl1, rfl, l_p_within, c_p_within⟩⟩) rfl (fun _ _ _ _ _ _ us hl => match us, hl with | [_, _, _], _ => rfl), f_p_check_order := f_p_check_order, fd_p_check_order := PySem.W.fnOf "check_order" "check_order" (C8.fnArgs s_p_check_order) (C8.fnBody s_p_check_order) (C8.fnScope s_p_check_order) .none kV2 dc2 pm2 an2 cd2 ct2, d_p_check_order := ⟨⟨⟨oc2, od2, .none, kV2, dc2, pm2, an2, cd2, ct2, sl2, rfl, l_p_check_order, c_p_check_order⟩⟩, PySem.W.mg_of X G a_p_check_order, k_p_check_order⟩, bi_p_check_order := C8.Fun.binds (show C8.Fun K "check_order" "check_order" s_p_check_order f_p_check_order (PySem.W.fnOf "check_order" "check_order" (C8.fnArgs s_p_check_order) (C8.fnBody s_p_check_order) (C8.fnScope s_p_check_order) .none kV2 dc2 pm2 an2 cd2 ct2) from ⟨⟨oc2, od2, .none, kV2, dc2, pm2, an2, cd2, ct2, sl2, rfl, l_p_check_order, c_p_check_order⟩⟩) rfl (fun _ _ _ _ _ _ us hl => match us, hl with | [_], _ => rfl), f_p_Move_done := f_p_Move_done, fd_p_Move_done := PySem.W.fnOf "done" "Move.done" (C8.fnArgs s_p_Move_done) (C8.fnBody s_p_Move_done) (C8.fnScope s_p_Move_done) .none kV3 dc3 pm3 an3 cd3 ct3, d_p_Move_done := ⟨⟨oc3, od3, .none, kV3, dc3, pm3, an3, cd3, ct3, sl3, rfl, l_p_Move_done, c_p_Move_done⟩⟩, bi_p_Move_done := C8.Fun.binds (show C8.Fun K "done" "Move.done" s_p_Move_done f_p_Move_done (PySem.W.fnOf "done" "Move.done" (C8.fnArgs s_p_Move_done) (C8.fnBody s_p_Move_done) (C8.fnScope s_p_Move_done) .none kV3 dc3 pm3 an3 cd3 ct3) from ⟨⟨oc3, od3, .none, kV3, dc3, pm3, an3, cd3, ct3, sl3, rfl, l_p_Move_done, c_p_Move_done⟩⟩) rfl (fun _ _ _ _ _ _ us hl => match us, hl with | [_, _], _ => rfl), f_p_Cut_init := f_p_Cut_init, fd_p_Cut_init := PySem.W.fnOf "__init__" "Cut.__init__" (C8.fnArgs s_p_Cut_init) (C8.fnBody s_p_Cut_init) (C8.fnScope s_p_Cut_init) .none kV4 dc4 pm4 an4 cd4 ct4, d_p_Cut_init := ⟨⟨oc4, od4, .none, kV4, dc4, pm4, an4, cd4, ct4, sl4, rfl, l_p_Cut_init, c_p_Cut_init⟩⟩, bi_p_Cut_init := C8.Fun.binds (show C8.Fun K "__init__" "Cut.__init__" s_p_Cut_init f_p_Cut_init (PySem.W.fnOf "__init__" "Cut.__init__" (C8.fnArgs s_p_Cut_init) (C8.fnBody s_p_Cut_init) (C8.fnScope s_p_Cut_init) .none kV4 dc4 pm4 an4 cd4 ct4) from ⟨⟨oc4, od4, .none, kV4, dc4, pm4, an4, cd4, ct4, sl4, rfl, l_p_Cut_init, c_p_Cut_init⟩⟩) rfl (fun _ _ _ _ _ _ us hl => match us, hl with | [_, _], _ => rfl), f_p_Cut_came := f_p_Cut_came, fd_p_Cut_came := PySem.W.fnOf "came" "Cut.came" (C8.fnArgs s_p_Cut_came) (C8.fnBody s_p_Cut_came) (C8.fnScope s_p_Cut_came) .none kV5 dc5 pm5 an5 cd5 ct5, d_p_Cut_came := ⟨⟨oc5, od5, .none, kV5, dc5, pm5, an5, cd5, ct5, sl5, rfl, l_p_Cut_came, c_p_Cut_came⟩⟩, bi_p_Cut_came := C8.Fun.binds (show C8.Fun K "came" "Cut.came" s_p_Cut_came f_p_Cut_came (PySem.W.fnOf "came" "Cut.came" (C8.fnArgs s_p_Cut_came) (C8.fnBody s_p_Cut_came) (C8.fnScope s_p_Cut_came) .none kV5 dc5 pm5 an5 cd5 ct5) from ⟨⟨oc5, od5, .none, kV5, dc5, pm5, an5, cd5, ct5, sl5, rfl, l_p_Cut_came, c_p_Cut_came⟩⟩) rfl (fun _ _ _ _ _ _ us hl => match us, hl with | [_, _], _ => rfl), f_p_Turn_came := f_p_Turn_came, fd_p_Turn_came := PySem.W.fnOf "came" "Turn.came" (C8.fnArgs s_p_Turn_came) (C8.fnBody s_p_Turn_came) (C8.fnScope s_p_Turn_came) .none kV6 dc6 pm6 an6 cd6 ct6, d_p_Turn_came := ⟨⟨oc6, od6, .none, kV6, dc6, pm6, an6, cd6, ct6, sl6, rfl, l_p_Turn_came, c_p_Turn_came⟩⟩, bi_p_Turn_came := C8.Fun.binds (show C8.Fun K "came" "Turn.came" s_p_Turn_came f_p_Turn_came (PySem.W.fnOf "came" "Turn.came" (C8.fnArgs s_p_Turn_came) (C8.fnBody s_p_Turn_came) (C8.fnScope s_p_Turn_came) .none kV6 dc6 pm6 an6 cd6 ct6) from ⟨⟨oc6, od6, .none, kV6, dc6, pm6, an6, cd6, ct6, sl6, rfl, l_p_Turn_came, c_p_Turn_came⟩⟩) rfl (fun _ _ _ _ _ _ us hl => match us, hl with | [_, _], _ => rfl), f_p_Deal_init := f_p_Deal_init, fd_p_Deal_init := PySem.W.fnOf "__init__" "Deal.__init__" (C8.fnArgs s_p_Deal_init) (C8.fnBody s_p_Deal_init) (C8.fnScope s_p_Deal_init) .none kV7 dc7 pm7 an7 cd7 ct7, d_p_Deal_init := ⟨⟨oc7, od7, .none, kV7, dc7, pm7, an7, cd7, ct7, sl7, rfl, l_p_Deal_init, c_p_Deal_init⟩⟩, bi_p_Deal_init := C8.Fun.binds (show C8.Fun K "__init__" "Deal.__init__" s_p_Deal_init f_p_Deal_init (PySem.W.fnOf "__init__" "Deal.__init__" (C8.fnArgs s_p_Deal_init) (C8.fnBody s_p_Deal_init) (C8.fnScope s_p_Deal_init) .none kV7 dc7 pm7 an7 cd7 ct7) from ⟨⟨oc7, od7, .none, kV7, dc7, pm7, an7, cd7, ct7, sl7, rfl, l_p_Deal_init, c_p_Deal_init⟩⟩) rfl (fun _ _ _ _ _ _ us hl => match us, hl with | [_, _], _ => rfl), f_p_Deal_came := f_p_Deal_came, fd_p_Deal_came := PySem.W.fnOf "came" "Deal.came" (C8.fnArgs s_p_Deal_came) (C8.fnBody s_p_Deal_came) (C8.fnScope s_p_Deal_came) .none kV8 dc8 pm8 an8 cd8 ct8, d_p_Deal_came := ⟨⟨oc8, od8, .none, kV8, dc8, pm8, an8, cd8, ct8, sl8, rfl, l_p_Deal_came, c_p_Deal_came⟩⟩, bi_p_Deal_came := C8.Fun.binds (show C8.Fun K "came" "Deal.came" s_p_Deal_came f_p_Deal_came (PySem.W.fnOf "came" "Deal.came" (C8.fnArgs s_p_Deal_came) (C8.fnBody s_p_Deal_came) (C8.fnScope s_p_Deal_came) .none kV8 dc8 pm8 an8 cd8 ct8) from ⟨⟨oc8, od8, .none, kV8, dc8, pm8, an8, cd8, ct8, sl8, rfl, l_p_Deal_came, c_p_Deal_came⟩⟩) rfl (fun _ _ _ _ _ _ us hl => match us, hl with | [_, _], _ => rfl), f_p_Under_came := f_p_Under_came, fd_p_Under_came := PySem.W.fnOf "came" "Under.came" (C8.fnArgs s_p_Under_came) (C8.fnBody s_p_Under_came) (C8.fnScope s_p_Under_came) .none kV9 dc9 pm9 an9 cd9 ct9, d_p_Under_came := ⟨⟨oc9, od9, .none, kV9, dc9, pm9, an9, cd9, ct9, sl9, rfl, l_p_Under_came, c_p_Under_came⟩⟩, bi_p_Under_came := C8.Fun.binds (show C8.Fun K "came" "Under.came" s_p_Under_came f_p_Under_came (PySem.W.fnOf "came" "Under.came" (C8.fnArgs s_p_Under_came) (C8.fnBody s_p_Under_came) (C8.fnScope s_p_Under_came) .none kV9 dc9 pm9 an9 cd9 ct9) from ⟨⟨oc9, od9, .none, kV9, dc9, pm9, an9, cd9, ct9, sl9, rfl, l_p_Under_came, c_p_Under_came⟩⟩) rfl (fun _ _ _ _ _ _ us hl => match us, hl with | [_, _], _ => rfl), f_p_Weave_init := f_p_Weave_init, fd_p_Weave_init := PySem.W.fnOf "__init__" "Weave.__init__" (C8.fnArgs s_p_Weave_init) (C8.fnBody s_p_Weave_init) (C8.fnScope s_p_Weave_init) .none kV10 dc10 pm10 an10 cd10 ct10, d_p_Weave_init := ⟨⟨oc10, od10, .none, kV10, dc10, pm10, an10, cd10, ct10, sl10, rfl, l_p_Weave_init, c_p_Weave_init⟩⟩, bi_p_Weave_init := C8.Fun.binds (show C8.Fun K "__init__" "Weave.__init__" s_p_Weave_init f_p_Weave_init (PySem.W.fnOf "__init__" "Weave.__init__" (C8.fnArgs s_p_Weave_init) (C8.fnBody s_p_Weave_init) (C8.fnScope s_p_Weave_init) .none kV10 dc10 pm10 an10 cd10 ct10) from ⟨⟨oc10, od10, .none, kV10, dc10, pm10, an10, cd10, ct10, sl10, rfl, l_p_Weave_init, c_p_Weave_init⟩⟩) rfl (fun _ _ _ _ _ _ us hl => match us, hl with | [_, _], _ => rfl), f_p_Weave_came := f_p_Weave_came, fd_p_Weave_came := PySem.W.fnOf "came" "Weave.came" (C8.fnArgs s_p_Weave_came) (C8.fnBody s_p_Weave_came) (C8.fnScope s_p_Weave_came) .none kV11 dc11 pm11 an11 cd11 ct11, d_p_Weave_came := ⟨⟨oc11, od11, .none, kV11, dc11, pm11, an11, cd11, ct11, sl11, rfl, l_p_Weave_came, c_p_Weave_came⟩⟩, bi_p_Weave_came := C8.Fun.binds (show C8.Fun K "came" "Weave.came" s_p_Weave_came f_p_Weave_came (PySem.W.fnOf "came" "Weave.came" (C8.fnArgs s_p_Weave_came) (C8.fnBody s_p_Weave_came) (C8.fnScope s_p_Weave_came) .none kV11 dc11 pm11 an11 cd11 ct11) from ⟨⟨oc11, od11, .none, kV11, dc11, pm11, an11, cd11, ct11, sl11, rfl, l_p_Weave_came, c_p_Weave_came⟩⟩) rfl (fun _ _ _ _ _ _ us hl => match us, hl with | [_, _], _ => rfl), f_p_Riffle_init := f_p_Riffle_init, fd_p_Riffle_init := PySem.W.fnOf "__init__" "Riffle.__init__" (C8.fnArgs s_p_Riffle_init) (C8.fnBody s_p_Riffle_init) (C8.fnScope s_p_Riffle_init) .none kV12 dc12 pm12 an12 cd12 ct12, d_p_Riffle_init := ⟨⟨oc12, od12, .none, kV12, dc12, pm12, an12, cd12, ct12, sl12, rfl, l_p_Riffle_init, c_p_Riffle_init⟩⟩, bi_p_Riffle_init := C8.Fun.binds (show C8.Fun K "__init__" "Riffle.__init__" s_p_Riffle_init f_p_Riffle_init (PySem.W.fnOf "__init__" "Riffle.__init__" (C8.fnArgs s_p_Riffle_init) (C8.fnBody s_p_Riffle_init) (C8.fnScope s_p_Riffle_init) .none kV12 dc12 pm12 an12 cd12 ct12) from ⟨⟨oc12, od12, .none, kV12, dc12, pm12, an12, cd12, ct12, sl12, rfl, l_p_Riffle_init, c_p_Riffle_init⟩⟩) rfl (fun _ _ _ _ _ _ us hl => match us, hl with | [_, _], _ => rfl), f_p_Riffle_came := f_p_Riffle_came, fd_p_Riffle_came := PySem.W.fnOf "came" "Riffle.came" (C8.fnArgs s_p_Riffle_came) (C8.fnBody s_p_Riffle_came) (C8.fnScope s_p_Riffle_came) .none kV13 dc13 pm13 an13 cd13 ct13, d_p_Riffle_came := ⟨⟨oc13, od13, .none, kV13, dc13, pm13, an13, cd13, ct13, sl13, rfl, l_p_Riffle_came, c_p_Riffle_came⟩⟩, bi_p_Riffle_came := C8.Fun.binds (show C8.Fun K "came" "Riffle.came" s_p_Riffle_came f_p_Riffle_came (PySem.W.fnOf "came" "Riffle.came" (C8.fnArgs s_p_Riffle_came) (C8.fnBody s_p_Riffle_came) (C8.fnScope s_p_Riffle_came) .none kV13 dc13 pm13 an13 cd13 ct13) from ⟨⟨oc13, od13, .none, kV13, dc13, pm13, an13, cd13, ct13, sl13, rfl, l_p_Riffle_came, c_p_Riffle_came⟩⟩) rfl (fun _ _ _ _ _ _ us hl => match us, hl with | [_, _], _ => rfl), f_p_check_moves := f_p_check_moves, fd_p_check_moves := PySem.W.fnOf "check_moves" "check_moves" (C8.fnArgs s_p_check_moves) (C8.fnBody s_p_check_moves) (C8.fnScope s_p_check_moves) .none kV14 dc14 pm14 an14 cd14 ct14, d_p_check_moves := ⟨⟨⟨oc14, od14, .none, kV14, dc14, pm14, an14, cd14, ct14, sl14, rfl, l_p_check_moves, c_p_check_moves⟩⟩, PySem.W.mg_of X G a_p_check_moves, k_p_check_moves⟩, bi_p_check_moves := C8.Fun.binds (show C8.Fun K "check_moves" "check_moves" s_p_check_moves f_p_check_moves (PySem.W.fnOf "check_moves" "check_moves" (C8.fnArgs s_p_check_moves) (C8.fnBody s_p_check_moves) (C8.fnScope s_p_check_moves) .none kV14 dc14 pm14 an14 cd14 ct14) from ⟨⟨oc14, od14, .none, kV14, dc14, pm14, an14, cd14, ct14, sl14, rfl, l_p_check_moves, c_p_check_moves⟩⟩) rfl (fun _ _ _ _ _ _ us hl => match us, hl with | [_], _ => rfl), f_p_done_all := f_p_done_all, fd_p_done_all := PySem.W.fnOf "done_all" "done_all" (C8.fnArgs s_p_done_all) (C8.fnBody s_p_done_all) (C8.fnScope s_p_done_all) .none kV15 dc15 pm15 an15 cd15 ct15, d_p_done_all := ⟨⟨⟨oc15, od15, .none, kV15, dc15, pm15, an15, cd15, ct15, sl15, rfl, l_p_done_all, c_p_done_all⟩⟩, PySem.W.mg_of X G a_p_done_all, k_p_done_all⟩, bi_p_done_all := C8.Fun.binds (show C8.Fun K "done_all" "done_all" s_p_done_all f_p_done_all (PySem.W.fnOf "done_all" "done_all" (C8.fnArgs s_p_done_all) (C8.fnBody s_p_done_all) (C8.fnScope s_p_done_all) .none kV15 dc15 pm15 an15 cd15 ct15) from ⟨⟨oc15, od15, .none, kV15, dc15, pm15, an15, cd15, ct15, sl15, rfl, l_p_done_all, c_p_done_all⟩⟩) rfl (fun _ _ _ _ _ _ us hl => match us, hl with | [_, _], _ => rfl), f_p_move_text := f_p_move_text, fd_p_move_text := PySem.W.fnOf "move_text" "move_text" (C8.fnArgs s_p_move_text) (C8.fnBody s_p_move_text) (C8.fnScope s_p_move_text) .none kV16 dc16 pm16 an16 cd16 ct16, d_p_move_text := ⟨⟨⟨oc16, od16, .none, kV16, dc16, pm16, an16, cd16, ct16, sl16, rfl, l_p_move_text, c_p_move_text⟩⟩, PySem.W.mg_of X G a_p_move_text, k_p_move_text⟩, bi_p_move_text := C8.Fun.binds (show C8.Fun K "move_text" "move_text" s_p_move_text f_p_move_text (PySem.W.fnOf "move_text" "move_text" (C8.fnArgs s_p_move_text) (C8.fnBody s_p_move_text) (C8.fnScope s_p_move_text) .none kV16 dc16 pm16 an16 cd16 ct16) from ⟨⟨oc16, od16, .none, kV16, dc16, pm16, an16, cd16, ct16, sl16, rfl, l_p_move_text, c_p_move_text⟩⟩) rfl (fun _ _ _ _ _ _ us hl => match us, hl with | [_], _ => rfl), f_p_written := f_p_written, fd_p_written := PySem.W.fnOf "written" "written" (C8.fnArgs s_p_written) (C8.fnBody s_p_written) (C8.fnScope s_p_written) .none kV17 dc17 pm17 an17 cd17 ct17, d_p_written := ⟨⟨⟨oc17, od17, .none, kV17, dc17, pm17, an17, cd17, ct17, sl17, rfl, l_p_written, c_p_written⟩⟩, PySem.W.mg_of X G a_p_written, k_p_written⟩, bi_p_written := C8.Fun.binds (show C8.Fun K "written" "written" s_p_written f_p_written (PySem.W.fnOf "written" "written" (C8.fnArgs s_p_written) (C8.fnBody s_p_written) (C8.fnScope s_p_written) .none kV17 dc17 pm17 an17 cd17 ct17) from ⟨⟨oc17, od17, .none, kV17, dc17, pm17, an17, cd17, ct17, sl17, rfl, l_p_written, c_p_written⟩⟩) rfl (fun _ _ _ _ _ _ us hl => match us, hl with | [_], _ => rfl), f_p_number_in := f_p_number_in, fd_p_number_in := PySem.W.fnOf "number_in" "number_in" (C8.fnArgs s_p_number_in) (C8.fnBody s_p_number_in) (C8.fnScope s_p_number_in) .none kV18 dc18 pm18 an18 cd18 ct18, d_p_number_in := ⟨⟨⟨oc18, od18, .none, kV18, dc18, pm18, an18, cd18, ct18, sl18, rfl, l_p_number_in, c_p_number_in⟩⟩, PySem.W.mg_of X G a_p_number_in, k_p_number_in⟩, bi_p_number_in := C8.Fun.binds (show C8.Fun K "number_in" "number_in" s_p_number_in f_p_number_in (PySem.W.fnOf "number_in" "number_in" (C8.fnArgs s_p_number_in) (C8.fnBody s_p_number_in) (C8.fnScope s_p_number_in) .none kV18 dc18 pm18 an18 cd18 ct18) from ⟨⟨oc18, od18, .none, kV18, dc18, pm18, an18, cd18, ct18, sl18, rfl, l_p_number_in, c_p_number_in⟩⟩) rfl (fun _ _ _ _ _ _ us hl => match us, hl with | [_], _ => rfl), f_p_move_in := f_p_move_in, fd_p_move_in := PySem.W.fnOf "move_in" "move_in" (C8.fnArgs s_p_move_in) (C8.fnBody s_p_move_in) (C8.fnScope s_p_move_in) .none kV19 dc19 pm19 an19 cd19 ct19, d_p_move_in := ⟨⟨⟨oc19, od19, .none, kV19, dc19, pm19, an19, cd19, ct19, sl19, rfl, l_p_move_in, c_p_move_in⟩⟩, PySem.W.mg_of X G a_p_move_in, k_p_move_in⟩, bi_p_move_in := C8.Fun.binds (show C8.Fun K "move_in" "move_in" s_p_move_in f_p_move_in (PySem.W.fnOf "move_in" "move_in" (C8.fnArgs s_p_move_in) (C8.fnBody s_p_move_in) (C8.fnScope s_p_move_in) .none kV19 dc19 pm19 an19 cd19 ct19) from ⟨⟨oc19, od19, .none, kV19, dc19, pm19, an19, cd19, ct19, sl19, rfl, l_p_move_in, c_p_move_in⟩⟩) rfl (fun _ _ _ _ _ _ us hl => match us, hl with | [_], _ => rfl), f_p_read := f_p_read, fd_p_read := PySem.W.fnOf "read" "read" (C8.fnArgs s_p_read) (C8.fnBody s_p_read) (C8.fnScope s_p_read) .none kV20 dc20 pm20 an20 cd20 ct20, d_p_read := ⟨⟨⟨oc20, od20, .none, kV20, dc20, pm20, an20, cd20, ct20, sl20, rfl, l_p_read, c_p_read⟩⟩, PySem.W.mg_of X G a_p_read, k_p_read⟩, bi_p_read := C8.Fun.binds (show C8.Fun K "read" "read" s_p_read f_p_read (PySem.W.fnOf "read" "read" (C8.fnArgs s_p_read) (C8.fnBody s_p_read) (C8.fnScope s_p_read) .none kV20 dc20 pm20 an20 cd20 ct20) from ⟨⟨oc20, od20, .none, kV20, dc20, pm20, an20, cd20, ct20, sl20, rfl, l_p_read, c_p_read⟩⟩) rfl (fun _ _ _ _ _ _ us hl => match us, hl with | [_], _ => rfl), f_l_cell_at := f_l_cell_at, fd_l_cell_at := PySem.W.fnOf "_law_cell_at" "_law_cell_at" (C8.fnArgs s_l_cell_at) (C8.fnBody s_l_cell_at) (C8.fnScope s_l_cell_at) .none kV21 dc21 pm21 an21 cd21 ct21, d_l_cell_at := ⟨⟨⟨oc21, od21, .none, kV21, dc21, pm21, an21, cd21, ct21, sl21, rfl, l_l_cell_at, c_l_cell_at⟩⟩, PySem.W.mg_of X G a_l_cell_at, k_l_cell_at⟩, bi_l_cell_at := C8.Fun.binds (show C8.Fun K "_law_cell_at" "_law_cell_at" s_l_cell_at f_l_cell_at (PySem.W.fnOf "_law_cell_at" "_law_cell_at" (C8.fnArgs s_l_cell_at) (C8.fnBody s_l_cell_at) (C8.fnScope s_l_cell_at) .none kV21 dc21 pm21 an21 cd21 ct21) from ⟨⟨oc21, od21, .none, kV21, dc21, pm21, an21, cd21, ct21, sl21, rfl, l_l_cell_at, c_l_cell_at⟩⟩) rfl (fun _ _ _ _ _ _ us hl => match us, hl with | [_, _], _ => rfl), f_l_draw := f_l_draw, fd_l_draw := PySem.W.fnOf "_law_draw" "_law_draw" (C8.fnArgs s_l_draw) (C8.fnBody s_l_draw) (C8.fnScope s_l_draw) .none kV22 dc22 pm22 an22 cd22 ct22, d_l_draw := ⟨⟨⟨oc22, od22, .none, kV22, dc22, pm22, an22, cd22, ct22, sl22, rfl, l_l_draw, c_l_draw⟩⟩, PySem.W.mg_of X G a_l_draw, k_l_draw⟩, bi_l_draw := C8.Fun.binds (show C8.Fun K "_law_draw" "_law_draw" s_l_draw f_l_draw (PySem.W.fnOf "_law_draw" "_law_draw" (C8.fnArgs s_l_draw) (C8.fnBody s_l_draw) (C8.fnScope s_l_draw) .none kV22 dc22 pm22 an22 cd22 ct22) from ⟨⟨oc22, od22, .none, kV22, dc22, pm22, an22, cd22, ct22, sl22, rfl, l_l_draw, c_l_draw⟩⟩) rfl (fun _ _ _ _ _ _ us hl => match us, hl with | [_, _, _], _ => rfl), f_l_order := f_l_order, fd_l_order := PySem.W.fnOf "_law_order" "_law_order" (C8.fnArgs s_l_order) (C8.fnBody s_l_order) (C8.fnScope s_l_order) .none kV23 dc23 pm23 an23 cd23 ct23, d_l_order := ⟨⟨⟨oc23, od23, .none, kV23, dc23, pm23, an23, cd23, ct23, sl23, rfl, l_l_order, c_l_order⟩⟩, PySem.W.mg_of X G a_l_order, k_l_order⟩, bi_l_order := C8.Fun.binds (show C8.Fun K "_law_order" "_law_order" s_l_order f_l_order (PySem.W.fnOf "_law_order" "_law_order" (C8.fnArgs s_l_order) (C8.fnBody s_l_order) (C8.fnScope s_l_order) .none kV23 dc23 pm23 an23 cd23 ct23) from ⟨⟨oc23, od23, .none, kV23, dc23, pm23, an23, cd23, ct23, sl23, rfl, l_l_order, c_l_order⟩⟩) rfl (fun _ _ _ _ _ _ us hl => match us, hl with | [_, _], _ => rfl), f_l_many := f_l_many, fd_l_many := PySem.W.fnOf "_law_many" "_law_many" (C8.fnArgs s_l_many) (C8.fnBody s_l_many) (C8.fnScope s_l_many) .none kV24 dc24 pm24 an24 cd24 ct24, d_l_many := ⟨⟨⟨oc24, od24, .none, kV24, dc24, pm24, an24, cd24, ct24, sl24, rfl, l_l_many, c_l_many⟩⟩, PySem.W.mg_of X G a_l_many, k_l_many⟩, bi_l_many := C8.Fun.binds (show C8.Fun K "_law_many" "_law_many" s_l_many f_l_many (PySem.W.fnOf "_law_many" "_law_many" (C8.fnArgs s_l_many) (C8.fnBody s_l_many) (C8.fnScope s_l_many) .none kV24 dc24 pm24 an24 cd24 ct24) from ⟨⟨oc24, od24, .none, kV24, dc24, pm24, an24, cd24, ct24, sl24, rfl, l_l_many, c_l_many⟩⟩) rfl (fun _ _ _ _ _ _ us hl => match us, hl with | [_, _], _ => rfl), f_l_word := f_l_word, fd_l_word := PySem.W.fnOf "_law_word" "_law_word" (C8.fnArgs s_l_word) (C8.fnBody s_l_word) (C8.fnScope s_l_word) .none kV25 dc25 pm25 an25 cd25 ct25, d_l_word := ⟨⟨⟨oc25, od25, .none, kV25, dc25, pm25, an25, cd25, ct25, sl25, rfl, l_l_word, c_l_word⟩⟩, PySem.W.mg_of X G a_l_word, k_l_word⟩, bi_l_word := C8.Fun.binds (show C8.Fun K "_law_word" "_law_word" s_l_word f_l_word (PySem.W.fnOf "_law_word" "_law_word" (C8.fnArgs s_l_word) (C8.fnBody s_l_word) (C8.fnScope s_l_word) .none kV25 dc25 pm25 an25 cd25 ct25) from ⟨⟨oc25, od25, .none, kV25, dc25, pm25, an25, cd25, ct25, sl25, rfl, l_l_word, c_l_word⟩⟩) rfl (fun _ _ _ _ _ _ us hl => match us, hl with | [_, _], _ => rfl), f_l_riffled := f_l_riffled, fd_l_riffled := PySem.W.fnOf "_law_riffled" "_law_riffled" (C8.fnArgs s_l_riffled) (C8.fnBody s_l_riffled) (C8.fnScope s_l_riffled) .none kV26 dc26 pm26 an26 cd26 ct26, d_l_riffled := ⟨⟨⟨oc26, od26, .none, kV26, dc26, pm26, an26, cd26, ct26, sl26, rfl, l_l_riffled, c_l_riffled⟩⟩, PySem.W.mg_of X G a_l_riffled, k_l_riffled⟩, bi_l_riffled := C8.Fun.binds (show C8.Fun K "_law_riffled" "_law_riffled" s_l_riffled f_l_riffled (PySem.W.fnOf "_law_riffled" "_law_riffled" (C8.fnArgs s_l_riffled) (C8.fnBody s_l_riffled) (C8.fnScope s_l_riffled) .none kV26 dc26 pm26 an26 cd26 ct26) from ⟨⟨oc26, od26, .none, kV26, dc26, pm26, an26, cd26, ct26, sl26, rfl, l_l_riffled, c_l_riffled⟩⟩) rfl (fun _ _ _ _ _ _ us hl => match us, hl with | [_, _], _ => rfl), f_l_dealt := f_l_dealt, fd_l_dealt := PySem.W.fnOf "_law_dealt" "_law_dealt" (C8.fnArgs s_l_dealt) (C8.fnBody s_l_dealt) (C8.fnScope s_l_dealt) .none kV27 dc27 pm27 an27 cd27 ct27, d_l_dealt := ⟨⟨⟨oc27, od27, .none, kV27, dc27, pm27, an27, cd27, ct27, sl27, rfl, l_l_dealt, c_l_dealt⟩⟩, PySem.W.mg_of X G a_l_dealt, k_l_dealt⟩, bi_l_dealt := C8.Fun.binds (show C8.Fun K "_law_dealt" "_law_dealt" s_l_dealt f_l_dealt (PySem.W.fnOf "_law_dealt" "_law_dealt" (C8.fnArgs s_l_dealt) (C8.fnBody s_l_dealt) (C8.fnScope s_l_dealt) .none kV27 dc27 pm27 an27 cd27 ct27) from ⟨⟨oc27, od27, .none, kV27, dc27, pm27, an27, cd27, ct27, sl27, rfl, l_l_dealt, c_l_dealt⟩⟩) rfl (fun _ _ _ _ _ _ us hl => match us, hl with | [_, _], _ => rfl), f_l_under := f_l_under, fd_l_under := PySem.W.fnOf "_law_under" "_law_under" (C8.fnArgs s_l_under) (C8.fnBody s_l_under) (C8.fnScope s_l_under) .none kV28 dc28 pm28 an28 cd28 ct28, d_l_under := ⟨⟨⟨oc28, od28, .none, kV28, dc28, pm28, an28, cd28, ct28, sl28, rfl, l_l_under, c_l_under⟩⟩, PySem.W.mg_of X G a_l_under, k_l_under⟩, bi_l_under := C8.Fun.binds (show C8.Fun K "_law_under" "_law_under" s_l_under f_l_under (PySem.W.fnOf "_law_under" "_law_under" (C8.fnArgs s_l_under) (C8.fnBody s_l_under) (C8.fnScope s_l_under) .none kV28 dc28 pm28 an28 cd28 ct28) from ⟨⟨oc28, od28, .none, kV28, dc28, pm28, an28, cd28, ct28, sl28, rfl, l_l_under, c_l_under⟩⟩) rfl (fun _ _ _ _ _ _ us hl => match us, hl with | [_], _ => rfl), f_l_moved := f_l_moved, fd_l_moved := PySem.W.fnOf "_law_moved" "_law_moved" (C8.fnArgs s_l_moved) (C8.fnBody s_l_moved) (C8.fnScope s_l_moved) .none kV29 dc29 pm29 an29 cd29 ct29, d_l_moved := ⟨⟨⟨oc29, od29, .none, kV29, dc29, pm29, an29, cd29, ct29, sl29, rfl, l_l_moved, c_l_moved⟩⟩, PySem.W.mg_of X G a_l_moved, k_l_moved⟩, bi_l_moved := C8.Fun.binds (show C8.Fun K "_law_moved" "_law_moved" s_l_moved f_l_moved (PySem.W.fnOf "_law_moved" "_law_moved" (C8.fnArgs s_l_moved) (C8.fnBody s_l_moved) (C8.fnScope s_l_moved) .none kV29 dc29 pm29 an29 cd29 ct29) from ⟨⟨oc29, od29, .none, kV29, dc29, pm29, an29, cd29, ct29, sl29, rfl, l_l_moved, c_l_moved⟩⟩) rfl (fun _ _ _ _ _ _ us hl => match us, hl with | [_, _], _ => rfl), f_l_told := f_l_told, fd_l_told := PySem.W.fnOf "_law_told" "_law_told" (C8.fnArgs s_l_told) (C8.fnBody s_l_told) (C8.fnScope s_l_told) .none kV30 dc30 pm30 an30 cd30 ct30, d_l_told := ⟨⟨⟨oc30, od30, .none, kV30, dc30, pm30, an30, cd30, ct30, sl30, rfl, l_l_told, c_l_told⟩⟩, PySem.W.mg_of X G a_l_told, k_l_told⟩, bi_l_told := C8.Fun.binds (show C8.Fun K "_law_told" "_law_told" s_l_told f_l_told (PySem.W.fnOf "_law_told" "_law_told" (C8.fnArgs s_l_told) (C8.fnBody s_l_told) (C8.fnScope s_l_told) .none kV30 dc30 pm30 an30 cd30 ct30) from ⟨⟨oc30, od30, .none, kV30, dc30, pm30, an30, cd30, ct30, sl30, rfl, l_l_told, c_l_told⟩⟩) rfl (fun _ _ _ _ _ _ us hl => match us, hl with | [_, _], _ => rfl), f_l_made := f_l_made, fd_l_made := PySem.W.fnOf "_law_made" "_law_made" (C8.fnArgs s_l_made) (C8.fnBody s_l_made) (C8.fnScope s_l_made) .none kV31 dc31 pm31 an31 cd31 ct31, d_l_made := ⟨⟨⟨oc31, od31, .none, kV31, dc31, pm31, an31, cd31, ct31, sl31, rfl, l_l_made, c_l_made⟩⟩, PySem.W.mg_of X G a_l_made, k_l_made⟩, bi_l_made := C8.Fun.binds (show C8.Fun K "_law_made" "_law_made" s_l_made f_l_made (PySem.W.fnOf "_law_made" "_law_made" (C8.fnArgs s_l_made) (C8.fnBody s_l_made) (C8.fnScope s_l_made) .none kV31 dc31 pm31 an31 cd31 ct31) from ⟨⟨oc31, od31, .none, kV31, dc31, pm31, an31, cd31, ct31, sl31, rfl, l_l_made, c_l_made⟩⟩) rfl (fun _ _ _ _ _ _ us hl => match us, hl with | [_], _ => rfl), f_l_text := f_l_text, fd_l_text := PySem.W.fnOf "_law_text" "_law_text" (C8.fnArgs s_l_text) (C8.fnBody s_l_text) (C8.fnScope s_l_text) .none kV32 dc32 pm32 an32 cd32 ct32, d_l_text := ⟨⟨⟨oc32, od32, .none, kV32, dc32, pm32, an32, cd32, ct32, sl32, rfl, l_l_text, c_l_text⟩⟩, PySem.W.mg_of X G a_l_text, k_l_text⟩, bi_l_text := C8.Fun.binds (show C8.Fun K "_law_text" "_law_text" s_l_text f_l_text (PySem.W.fnOf "_law_text" "_law_text" (C8.fnArgs s_l_text) (C8.fnBody s_l_text) (C8.fnScope s_l_text) .none kV32 dc32 pm32 an32 cd32 ct32) from ⟨⟨oc32, od32, .none, kV32, dc32, pm32, an32, cd32, ct32, sl32, rfl, l_l_text, c_l_text⟩⟩) rfl (fun _ _ _ _ _ _ us hl => match us, hl with | [_], _ => rfl), f_l_number := f_l_number, fd_l_number := PySem.W.fnOf "_law_number" "_law_number" (C8.fnArgs s_l_number) (C8.fnBody s_l_number) (C8.fnScope s_l_number) .none kV33 dc33 pm33 an33 cd33 ct33, d_l_number := ⟨⟨⟨oc33, od33, .none, kV33, dc33, pm33, an33, cd33, ct33, sl33, rfl, l_l_number, c_l_number⟩⟩, PySem.W.mg_of X G a_l_number, k_l_number⟩, bi_l_number := C8.Fun.binds (show C8.Fun K "_law_number" "_law_number" s_l_number f_l_number (PySem.W.fnOf "_law_number" "_law_number" (C8.fnArgs s_l_number) (C8.fnBody s_l_number) (C8.fnScope s_l_number) .none kV33 dc33 pm33 an33 cd33 ct33) from ⟨⟨oc33, od33, .none, kV33, dc33, pm33, an33, cd33, ct33, sl33, rfl, l_l_number, c_l_number⟩⟩) rfl (fun _ _ _ _ _ _ us hl => match us, hl with | [_, _, _], _ => rfl), f_l_writes := f_l_writes, fd_l_writes := PySem.W.fnOf "_law_writes" "_law_writes" (C8.fnArgs s_l_writes) (C8.fnBody s_l_writes) (C8.fnScope s_l_writes) .none kV34 dc34 pm34 an34 cd34 ct34, d_l_writes := ⟨⟨⟨oc34, od34, .none, kV34, dc34, pm34, an34, cd34, ct34, sl34, rfl, l_l_writes, c_l_writes⟩⟩, PySem.W.mg_of X G a_l_writes, k_l_writes⟩, bi_l_writes := C8.Fun.binds (show C8.Fun K "_law_writes" "_law_writes" s_l_writes f_l_writes (PySem.W.fnOf "_law_writes" "_law_writes" (C8.fnArgs s_l_writes) (C8.fnBody s_l_writes) (C8.fnScope s_l_writes) .none kV34 dc34 pm34 an34 cd34 ct34) from ⟨⟨oc34, od34, .none, kV34, dc34, pm34, an34, cd34, ct34, sl34, rfl, l_l_writes, c_l_writes⟩⟩) rfl (fun _ _ _ _ _ _ us hl => match us, hl with | [_], _ => rfl), f_l_refused := f_l_refused, fd_l_refused := PySem.W.fnOf "_law_refused" "_law_refused" (C8.fnArgs s_l_refused) (C8.fnBody s_l_refused) (C8.fnScope s_l_refused) .none kV35 dc35 pm35 an35 cd35 ct35, d_l_refused := ⟨⟨⟨oc35, od35, .none, kV35, dc35, pm35, an35, cd35, ct35, sl35, rfl, l_l_refused, c_l_refused⟩⟩, PySem.W.mg_of X G a_l_refused, k_l_refused⟩, bi_l_refused := C8.Fun.binds (show C8.Fun K "_law_refused" "_law_refused" s_l_refused f_l_refused (PySem.W.fnOf "_law_refused" "_law_refused" (C8.fnArgs s_l_refused) (C8.fnBody s_l_refused) (C8.fnScope s_l_refused) .none kV35 dc35 pm35 an35 cd35 ct35) from ⟨⟨oc35, od35, .none, kV35, dc35, pm35, an35, cd35, ct35, sl35, rfl, l_l_refused, c_l_refused⟩⟩) rfl (fun _ _ _ _ _ _ us hl => match us, hl with | [_], _ => rfl), f_l_few := f_l_few, fd_l_few := PySem.W.fnOf "_law_few" "_law_few" (C8.fnArgs s_l_few) (C8.fnBody s_l_few) (C8.fnScope s_l_few) .none kV36 dc36 pm36 an36 cd36 ct36, d_l_few := ⟨⟨⟨oc36, od36, .none, kV36, dc36, pm36, an36, cd36, ct36, sl36, rfl, l_l_few, c_l_few⟩⟩, PySem.W.mg_of X G a_l_few, k_l_few⟩, bi_l_few := C8.Fun.binds (show C8.Fun K "_law_few" "_law_few" s_l_few f_l_few (PySem.W.fnOf "_law_few" "_law_few" (C8.fnArgs s_l_few) (C8.fnBody s_l_few) (C8.fnScope s_l_few) .none kV36 dc36 pm36 an36 cd36 ct36) from ⟨⟨oc36, od36, .none, kV36, dc36, pm36, an36, cd36, ct36, sl36, rfl, l_l_few, c_l_few⟩⟩) rfl (fun _ _ _ _ _ _ us hl => match us, hl with | [], _ => rfl), f_law := f_law, fd_law := PySem.W.fnOf "law" "law" (C8.fnArgs s_law) (C8.fnBody s_law) (C8.fnScope s_law) .none kV37 dc37 pm37 an37 cd37 ct37, d_law := ⟨⟨⟨oc37, od37, .none, kV37, dc37, pm37, an37, cd37, ct37, sl37, rfl, l_law, c_law⟩⟩, PySem.W.mg_of X G a_law, k_law⟩, bi_law := C8.Fun.binds (show C8.Fun K "law" "law" s_law f_law (PySem.W.fnOf "law" "law" (C8.fnArgs s_law) (C8.fnBody s_law) (C8.fnScope s_law) .none kV37 dc37 pm37 an37 cd37 ct37) from ⟨⟨oc37, od37, .none, kV37, dc37, pm37, an37, cd37, ct37, sl37, rfl, l_law, c_law⟩⟩) rfl (fun _ _ _ _ _ _ us hl => match us, hl with | [_], _ => rfl), mk_Cut := ⟨mk_Cut, a_p_Cut_init, i_p_Cut_init, kc_Cut⟩, me_Cut_came := ⟨a_p_Cut_came, i_p_Cut_came, k_p_Cut_came⟩, me_Cut_done := ⟨me_Cut_done, i_p_Move_done, k_p_Move_done⟩, mo_Turn := ⟨PySem.W.mg_of X G g_Turn, mk_Turn, oi_Turn, kc_Turn⟩, me_Turn_came := ⟨a_p_Turn_came, i_p_Turn_came, k_p_Turn_came⟩, me_Turn_done := ⟨me_Turn_done, i_p_Move_done, k_p_Move_done⟩, mk_Deal := ⟨mk_Deal, a_p_Deal_init, i_p_Deal_init, kc_Deal⟩, me_Deal_came := ⟨a_p_Deal_came, i_p_Deal_came, k_p_Deal_came⟩, me_Deal_done := ⟨me_Deal_done, i_p_Move_done, k_p_Move_done⟩, mo_Under := ⟨PySem.W.mg_of X G g_Under, mk_Under, oi_Under, kc_Under⟩, me_Under_came := ⟨a_p_Under_came, i_p_Under_came, k_p_Under_came⟩, me_Under_done := ⟨me_Under_done, i_p_Move_done, k_p_Move_done⟩, mk_Weave := ⟨mk_Weave, a_p_Weave_init, i_p_Weave_init, kc_Weave⟩, me_Weave_came := ⟨a_p_Weave_came, i_p_Weave_came, k_p_Weave_came⟩, me_Weave_done := ⟨me_Weave_done, i_p_Move_done, k_p_Move_done⟩, mk_Riffle := ⟨mk_Riffle, a_p_Riffle_init, i_p_Riffle_init, kc_Riffle⟩, me_Riffle_came := ⟨a_p_Riffle_came, i_p_Riffle_came, k_p_Riffle_came⟩, me_Riffle_done := ⟨me_Riffle_done, i_p_Move_done, k_p_Move_done⟩, F := ⟨fun κ h => match κ, h with | .cut, h => ⟨pg_Cut, hd_Cut, po_Cut, sa_Cut⟩ | .turn, h => ⟨pg_Turn, hd_Turn, po_Turn, sa_Turn⟩ | .deal, h => ⟨pg_Deal, hd_Deal, po_Deal, sa_Deal⟩ | .under, h => ⟨pg_Under, hd_Under, po_Under, sa_Under⟩ | .weave, h => ⟨pg_Weave, hd_Weave, po_Weave, sa_Weave⟩ | .riffle, h => ⟨pg_Riffle, hd_Riffle, po_Riffle, sa_Riffle⟩, fun h => n_Cut_many, fun h => n_Deal_piles, fun h => n_Weave_first, fun h => n_Riffle_word, fun κ h H a dx fs e => match κ, h, e with | .cut, h, e => TyX.base (TyOf.ins e ⟨pg_Cut, hd_Cut, po_Cut, sa_Cut⟩ hc_Cut sp_cls tk_cls mo_Cut) | .turn, h, e => TyX.base (TyOf.ins e ⟨pg_Turn, hd_Turn, po_Turn, sa_Turn⟩ hc_Turn sp_cls tk_cls mo_Turn) | .deal, h, e => TyX.base (TyOf.ins e ⟨pg_Deal, hd_Deal, po_Deal, sa_Deal⟩ hc_Deal sp_cls tk_cls mo_Deal) | .under, h, e => TyX.base (TyOf.ins e ⟨pg_Under, hd_Under, po_Under, sa_Under⟩ hc_Under sp_cls tk_cls mo_Under) | .weave, h, e => TyX.base (TyOf.ins e ⟨pg_Weave, hd_Weave, po_Weave, sa_Weave⟩ hc_Weave sp_cls tk_cls mo_Weave) | .riffle, h, e => TyX.base (TyOf.ins e ⟨pg_Riffle, hd_Riffle, po_Riffle, sa_Riffle⟩ hc_Riffle sp_cls tk_cls mo_Riffle), fun κ κ' h h' => match κ, κ', h, h' with | .cut, .cut, h, h' => kit_mk ic_Cut tc_Cut sub_Cut_Cut (fun _ => rfl) | .cut, .turn, h, h' => kit_mk ic_Turn tc_Turn sub_Cut_Turn (fun e => ne_abs ne_Cut_Turn e) | .cut, .deal, h, h' => kit_mk ic_Deal tc_Deal sub_Cut_Deal (fun e => ne_abs ne_Cut_Deal e) | .cut, .under, h, h' => kit_mk ic_Under tc_Under sub_Cut_Under (fun e => ne_abs ne_Cut_Under e) | .cut, .weave, h, h' => kit_mk ic_Weave tc_Weave sub_Cut_Weave (fun e => ne_abs ne_Cut_Weave e) | .cut, .riffle, h, h' => kit_mk ic_Riffle tc_Riffle sub_Cut_Riffle (fun e => ne_abs ne_Cut_Riffle e) | .turn, .cut, h, h' => kit_mk ic_Cut tc_Cut sub_Turn_Cut (fun e => ne_abs ne_Turn_Cut e) | .turn, .turn, h, h' => kit_mk ic_Turn tc_Turn sub_Turn_Turn (fun _ => rfl) | .turn, .deal, h, h' => kit_mk ic_Deal tc_Deal sub_Turn_Deal (fun e => ne_abs ne_Turn_Deal e) | .turn, .under, h, h' => kit_mk ic_Under tc_Under sub_Turn_Under (fun e => ne_abs ne_Turn_Under e) | .turn, .weave, h, h' => kit_mk ic_Weave tc_Weave sub_Turn_Weave (fun e => ne_abs ne_Turn_Weave e) | .turn, .riffle, h, h' => kit_mk ic_Riffle tc_Riffle sub_Turn_Riffle (fun e => ne_abs ne_Turn_Riffle e) | .deal, .cut, h, h' => kit_mk ic_Cut tc_Cut sub_Deal_Cut (fun e => ne_abs ne_Deal_Cut e) | .deal, .turn, h, h' => kit_mk ic_Turn tc_Turn sub_Deal_Turn (fun e => ne_abs ne_Deal_Turn e) | .deal, .deal, h, h' => kit_mk ic_Deal tc_Deal sub_Deal_Deal (fun _ => rfl) | .deal, .under, h, h' => kit_mk ic_Under tc_Under sub_Deal_Under (fun e => ne_abs ne_Deal_Under e) | .deal, .weave, h, h' => kit_mk ic_Weave tc_Weave sub_Deal_Weave (fun e => ne_abs ne_Deal_Weave e) | .deal, .riffle, h, h' => kit_mk ic_Riffle tc_Riffle sub_Deal_Riffle (fun e => ne_abs ne_Deal_Riffle e) | .under, .cut, h, h' => kit_mk ic_Cut tc_Cut sub_Under_Cut (fun e => ne_abs ne_Under_Cut e) | .under, .turn, h, h' => kit_mk ic_Turn tc_Turn sub_Under_Turn (fun e => ne_abs ne_Under_Turn e) | .under, .deal, h, h' => kit_mk ic_Deal tc_Deal sub_Under_Deal (fun e => ne_abs ne_Under_Deal e) | .under, .under, h, h' => kit_mk ic_Under tc_Under sub_Under_Under (fun _ => rfl) | .under, .weave, h, h' => kit_mk ic_Weave tc_Weave sub_Under_Weave (fun e => ne_abs ne_Under_Weave e) | .under, .riffle, h, h' => kit_mk ic_Riffle tc_Riffle sub_Under_Riffle (fun e => ne_abs ne_Under_Riffle e) | .weave, .cut, h, h' => kit_mk ic_Cut tc_Cut sub_Weave_Cut (fun e => ne_abs ne_Weave_Cut e) | .weave, .turn, h, h' => kit_mk ic_Turn tc_Turn sub_Weave_Turn (fun e => ne_abs ne_Weave_Turn e) | .weave, .deal, h, h' => kit_mk ic_Deal tc_Deal sub_Weave_Deal (fun e => ne_abs ne_Weave_Deal e) | .weave, .under, h, h' => kit_mk ic_Under tc_Under sub_Weave_Under (fun e => ne_abs ne_Weave_Under e) | .weave, .weave, h, h' => kit_mk ic_Weave tc_Weave sub_Weave_Weave (fun _ => rfl) | .weave, .riffle, h, h' => kit_mk ic_Riffle tc_Riffle sub_Weave_Riffle (fun e => ne_abs ne_Weave_Riffle e) | .riffle, .cut, h, h' => kit_mk ic_Cut tc_Cut sub_Riffle_Cut (fun e => ne_abs ne_Riffle_Cut e) | .riffle, .turn, h, h' => kit_mk ic_Turn tc_Turn sub_Riffle_Turn (fun e => ne_abs ne_Riffle_Turn e) | .riffle, .deal, h, h' => kit_mk ic_Deal tc_Deal sub_Riffle_Deal (fun e => ne_abs ne_Riffle_Deal e) | .riffle, .under, h, h' => kit_mk ic_Under tc_Under sub_Riffle_Under (fun e => ne_abs ne_Riffle_Under e) | .riffle, .weave, h, h' => kit_mk ic_Weave tc_Weave sub_Riffle_Weave (fun e => ne_abs ne_Riffle_Weave e) | .riffle, .riffle, h, h' => kit_mk ic_Riffle tc_Riffle sub_Riffle_Riffle (fun _ => rfl), fun κ h => match κ, h with | .cut, h => pryes_cut | .turn, h => pryes_turn | .deal, h => pryes_deal | .under, h => pryes_under | .weave, h => pryes_weave | .riffle, h => pryes_riffle, fun κ h => match κ, h with | .cut, h => ⟨mo_Cut, eq_Cut⟩ | .turn, h => ⟨mo_Turn, eq_Turn⟩ | .deal, h => ⟨mo_Deal, eq_Deal⟩ | .under, h => ⟨mo_Under, eq_Under⟩ | .weave, h => ⟨mo_Weave, eq_Weave⟩ | .riffle, h => ⟨mo_Riffle, eq_Riffle⟩, fun κ h => match κ, h with | .cut, h => kit_mk ic_Move tc_Move sub_Cut_Move (fun _ => rfl) | .turn, h => kit_mk ic_Move tc_Move sub_Turn_Move (fun _ => rfl) | .deal, h => kit_mk ic_Move tc_Move sub_Deal_Move (fun _ => rfl) | .under, h => kit_mk ic_Move tc_Move sub_Under_Move (fun _ => rfl) | .weave, h => kit_mk ic_Move tc_Move sub_Weave_Move (fun _ => rfl) | .riffle, h => kit_mk ic_Move tc_Move sub_Riffle_Move (fun _ => rfl)⟩, av := rfl, pr := rfl, X := ⟨⟨PySem.W.mg_of X G g_BadText, ex_BadText, ek_BadText, eb_BadText, et_BadText⟩, ⟨PySem.W.mg_of X G g_BadMove, ex_BadMove, ek_BadMove, eb_BadMove, et_BadMove⟩, PySem.W.mg_of X G g_PackError, PySem.W.exm_ref eb_BadMove ed_BadMove et_BadMove es_BadText_BadMove, PySem.W.exm_ref eb_BadMove ed_BadMove et_BadMove es_BadMove_BadMove, PySem.W.exm_ref eb_PackError ed_PackError et_PackError es_BadText_PackError, ⟨ega, egt, eb_BadText, ed_BadText, eca, sp_cls, tk_cls, emo⟩, kit_mk ei_BadMove et_BadMove es_BadText_BadMove (fun e => ne_abs ne_BadText_BadMove e), kit_mk ei_BadNumber et_BadNumber es_BadText_BadNumber (fun e => ne_abs ne_BadText_BadNumber e), kit_mk ei_BadOrder et_BadOrder es_BadText_BadOrder (fun e => ne_abs ne_BadText_BadOrder e), kit_mk ei_BadText et_BadText es_BadText_BadText (fun e => rfl), kit_ve es_BadText_VE⟩, b_ValueError := PySem.W.mg_none_of X G b_ValueError, b_bool := PySem.W.mg_none_of X G b_bool, b_int := PySem.W.mg_none_of X G b_int, b_isinstance := PySem.W.mg_none_of X G b_isinstance, b_len := PySem.W.mg_none_of X G b_len, b_list := PySem.W.mg_none_of X G b_list, b_range := PySem.W.mg_none_of X G b_range, b_reversed := PySem.W.mg_none_of X G b_reversed, b_set := PySem.W.mg_none_of X G b_set, b_str := PySem.W.mg_none_of X G b_str, c_FIGURES := ⟨_, PySem.W.mg_of X G v_FIGURES, _, rfl⟩, c_MOST := ⟨_, PySem.W.mg_of X G v_MOST, _, rfl⟩ }
  exact ⟨_, fun s v => .of_eq rfl, fun base _ _ => ok_law T⟩
end Rf

set_option Elab.async false
set_option linter.all false
open PySem PySem.W PyProof.Rows
set_option maxRecDepth 100000 in
set_option maxHeartbeats 0 in
theorem PySem.Challenge.cw_riffles_k09_written_holds : PySem.Challenge.rw_riffles_k09_written.Holds := by
  w_on; o_law; k_head; (case hw => w_witness2)
  k_fill
  refine L2.walk_of (l := PySem.Challenge.rw_riffles_k09_written) (n := 63) (k := 7) (x := "_law_script") (CX := fun _ => C8.CX0) (sp := fun w => Rf.spLaw _) rfl (by decide) rfl ⟨rfl, by decide, by decide⟩ (fun w h Y => PySem.W.kIn_of Y) ?F (fun _ _ a ns hl _ hS => ⟨a, ns, rfl, hS, hl, fun _ => rfl⟩) (fun _ _ _ _ _ h => h)
  case F =>
    intro w mg fa h KX G hmg
    refine' Rf.all_mk KX G hmg ?g_PackError ?g_BadOrder ?g_BadMove ?g_BadNumber ?g_BadText ?g_Move ?g_Cut ?g_Turn ?g_Deal ?g_Under ?g_Weave ?g_Riffle ?a_p_within ?l_p_within ?c_p_within ?k_p_within ?a_p_check_order ?l_p_check_order ?c_p_check_order ?k_p_check_order ?a_p_Move_done ?i_p_Move_done ?l_p_Move_done ?c_p_Move_done ?k_p_Move_done ?a_p_Cut_init ?i_p_Cut_init ?l_p_Cut_init ?c_p_Cut_init ?k_p_Cut_init ?a_p_Cut_came ?i_p_Cut_came ?l_p_Cut_came ?c_p_Cut_came ?k_p_Cut_came ?a_p_Turn_came ?i_p_Turn_came ?l_p_Turn_came ?c_p_Turn_came ?k_p_Turn_came ?a_p_Deal_init ?i_p_Deal_init ?l_p_Deal_init ?c_p_Deal_init ?k_p_Deal_init ?a_p_Deal_came ?i_p_Deal_came ?l_p_Deal_came ?c_p_Deal_came ?k_p_Deal_came ?a_p_Under_came ?i_p_Under_came ?l_p_Under_came ?c_p_Under_came ?k_p_Under_came ?a_p_Weave_init ?i_p_Weave_init ?l_p_Weave_init ?c_p_Weave_init ?k_p_Weave_init ?a_p_Weave_came ?i_p_Weave_came ?l_p_Weave_came ?c_p_Weave_came ?k_p_Weave_came ?a_p_Riffle_init ?i_p_Riffle_init ?l_p_Riffle_init ?c_p_Riffle_init ?k_p_Riffle_init ?a_p_Riffle_came ?i_p_Riffle_came ?l_p_Riffle_came ?c_p_Riffle_came ?k_p_Riffle_came ?a_p_check_moves ?l_p_check_moves ?c_p_check_moves ?k_p_check_moves ?a_p_done_all ?l_p_done_all ?c_p_done_all ?k_p_done_all ?a_p_move_text ?l_p_move_text ?c_p_move_text ?k_p_move_text ?a_p_written ?l_p_written ?c_p_written ?k_p_written ?a_p_number_in ?l_p_number_in ?c_p_number_in ?k_p_number_in ?a_p_move_in ?l_p_move_in ?c_p_move_in ?k_p_move_in ?a_p_read ?l_p_read ?c_p_read ?k_p_read ?a_l_cell_at ?l_l_cell_at ?c_l_cell_at ?k_l_cell_at ?a_l_draw ?l_l_draw ?c_l_draw ?k_l_draw ?a_l_order ?l_l_order ?c_l_order ?k_l_order ?a_l_many ?l_l_many ?c_l_many ?k_l_many ?a_l_word ?l_l_word ?c_l_word ?k_l_word ?a_l_riffled ?l_l_riffled ?c_l_riffled ?k_l_riffled ?a_l_dealt ?l_l_dealt ?c_l_dealt ?k_l_dealt ?a_l_under ?l_l_under ?c_l_under ?k_l_under ?a_l_moved ?l_l_moved ?c_l_moved ?k_l_moved ?a_l_told ?l_l_told ?c_l_told ?k_l_told ?a_l_made ?l_l_made ?c_l_made ?k_l_made ?a_l_text ?l_l_text ?c_l_text ?k_l_text ?a_l_number ?l_l_number ?c_l_number ?k_l_number ?a_l_writes ?l_l_writes ?c_l_writes ?k_l_writes ?a_l_refused ?l_l_refused ?c_l_refused ?k_l_refused ?a_l_few ?l_l_few ?c_l_few ?k_l_few ?a_law ?l_law ?c_law ?k_law ?pg_Cut ?hd_Cut ?po_Cut ?sa_Cut ?mk_Cut ?kc_Cut ?hc_Cut ?mo_Cut ?eq_Cut ?n_Cut_many ?me_Cut_done ?pg_Turn ?hd_Turn ?po_Turn ?sa_Turn ?mk_Turn ?kc_Turn ?hc_Turn ?mo_Turn ?eq_Turn ?oi_Turn ?me_Turn_done ?pg_Deal ?hd_Deal ?po_Deal ?sa_Deal ?mk_Deal ?kc_Deal ?hc_Deal ?mo_Deal ?eq_Deal ?n_Deal_piles ?me_Deal_done ?pg_Under ?hd_Under ?po_Under ?sa_Under ?mk_Under ?kc_Under ?hc_Under ?mo_Under ?eq_Under ?oi_Under ?me_Under_done ?pg_Weave ?hd_Weave ?po_Weave ?sa_Weave ?mk_Weave ?kc_Weave ?hc_Weave ?mo_Weave ?eq_Weave ?n_Weave_first ?me_Weave_done ?pg_Riffle ?hd_Riffle ?po_Riffle ?sa_Riffle ?mk_Riffle ?kc_Riffle ?hc_Riffle ?mo_Riffle ?eq_Riffle ?n_Riffle_word ?me_Riffle_done ?sp_cls ?tk_cls ?sub_Cut_Cut ?sub_Cut_Turn ?ne_Cut_Turn ?sub_Cut_Deal ?ne_Cut_Deal ?sub_Cut_Under ?ne_Cut_Under ?sub_Cut_Weave ?ne_Cut_Weave ?sub_Cut_Riffle ?ne_Cut_Riffle ?sub_Cut_Move ?sub_Turn_Cut ?ne_Turn_Cut ?sub_Turn_Turn ?sub_Turn_Deal ?ne_Turn_Deal ?sub_Turn_Under ?ne_Turn_Under ?sub_Turn_Weave ?ne_Turn_Weave ?sub_Turn_Riffle ?ne_Turn_Riffle ?sub_Turn_Move ?sub_Deal_Cut ?ne_Deal_Cut ?sub_Deal_Turn ?ne_Deal_Turn ?sub_Deal_Deal ?sub_Deal_Under ?ne_Deal_Under ?sub_Deal_Weave ?ne_Deal_Weave ?sub_Deal_Riffle ?ne_Deal_Riffle ?sub_Deal_Move ?sub_Under_Cut ?ne_Under_Cut ?sub_Under_Turn ?ne_Under_Turn ?sub_Under_Deal ?ne_Under_Deal ?sub_Under_Under ?sub_Under_Weave ?ne_Under_Weave ?sub_Under_Riffle ?ne_Under_Riffle ?sub_Under_Move ?sub_Weave_Cut ?ne_Weave_Cut ?sub_Weave_Turn ?ne_Weave_Turn ?sub_Weave_Deal ?ne_Weave_Deal ?sub_Weave_Under ?ne_Weave_Under ?sub_Weave_Weave ?sub_Weave_Riffle ?ne_Weave_Riffle ?sub_Weave_Move ?sub_Riffle_Cut ?ne_Riffle_Cut ?sub_Riffle_Turn ?ne_Riffle_Turn ?sub_Riffle_Deal ?ne_Riffle_Deal ?sub_Riffle_Under ?ne_Riffle_Under ?sub_Riffle_Weave ?ne_Riffle_Weave ?sub_Riffle_Riffle ?sub_Riffle_Move ?ic_Cut ?tc_Cut ?ic_Turn ?tc_Turn ?ic_Deal ?tc_Deal ?ic_Under ?tc_Under ?ic_Weave ?tc_Weave ?ic_Riffle ?tc_Riffle ?ic_Move ?tc_Move ?ex_BadText ?ek_BadText ?ex_BadMove ?ek_BadMove ?eb_BadText ?et_BadText ?ed_BadText ?ei_BadText ?eb_BadMove ?et_BadMove ?ed_BadMove ?ei_BadMove ?eb_BadNumber ?et_BadNumber ?ed_BadNumber ?ei_BadNumber ?eb_BadOrder ?et_BadOrder ?ed_BadOrder ?ei_BadOrder ?eb_PackError ?et_PackError ?ed_PackError ?ei_PackError ?es_BadText_BadText ?es_BadText_BadMove ?ne_BadText_BadMove ?es_BadText_BadNumber ?ne_BadText_BadNumber ?es_BadText_BadOrder ?ne_BadText_BadOrder ?es_BadText_PackError ?ne_BadText_PackError ?es_BadMove_BadMove ?es_BadText_VE ?ega ?egt ?eca ?emo ?b_ValueError ?b_bool ?b_int ?b_isinstance ?b_len ?b_list ?b_range ?b_reversed ?b_set ?b_str ?v_FIGURES ?v_MOST
    (case g_PackError => k_is)
    (case g_BadOrder => k_is)
    (case g_BadMove => k_is)
    (case g_BadNumber => k_is)
    (case g_BadText => k_is)
    (case g_Move => k_is)
    (case g_Cut => k_is)
    (case g_Turn => k_is)
    (case g_Deal => k_is)
    (case g_Under => k_is)
    (case g_Weave => k_is)
    (case g_Riffle => k_is)
    (case a_p_within => k_is)
    (case l_p_within => k_is)
    (case c_p_within => k_is)
    (case k_p_within => k_is)
    (case a_p_check_order => k_is)
    (case l_p_check_order => k_is)
    (case c_p_check_order => k_is)
    (case k_p_check_order => k_is)
    (case a_p_Move_done => k_is)
    (case i_p_Move_done => k_is)
    (case l_p_Move_done => k_is)
    (case c_p_Move_done => k_is)
    (case k_p_Move_done => k_is)
    (case a_p_Cut_init => k_is)
    (case i_p_Cut_init => k_is)
    (case l_p_Cut_init => k_is)
    (case c_p_Cut_init => k_is)
    (case k_p_Cut_init => k_is)
    (case a_p_Cut_came => k_is)
    (case i_p_Cut_came => k_is)
    (case l_p_Cut_came => k_is)
    (case c_p_Cut_came => k_is)
    (case k_p_Cut_came => k_is)
    (case a_p_Turn_came => k_is)
    (case i_p_Turn_came => k_is)
    (case l_p_Turn_came => k_is)
    (case c_p_Turn_came => k_is)
    (case k_p_Turn_came => k_is)
    (case a_p_Deal_init => k_is)
    (case i_p_Deal_init => k_is)
    (case l_p_Deal_init => k_is)
    (case c_p_Deal_init => k_is)
    (case k_p_Deal_init => k_is)
    (case a_p_Deal_came => k_is)
    (case i_p_Deal_came => k_is)
    (case l_p_Deal_came => k_is)
    (case c_p_Deal_came => k_is)
    (case k_p_Deal_came => k_is)
    (case a_p_Under_came => k_is)
    (case i_p_Under_came => k_is)
    (case l_p_Under_came => k_is)
    (case c_p_Under_came => k_is)
    (case k_p_Under_came => k_is)
    (case a_p_Weave_init => k_is)
    (case i_p_Weave_init => k_is)
    (case l_p_Weave_init => k_is)
    (case c_p_Weave_init => k_is)
    (case k_p_Weave_init => k_is)
    (case a_p_Weave_came => k_is)
    (case i_p_Weave_came => k_is)
    (case l_p_Weave_came => k_is)
    (case c_p_Weave_came => k_is)
    (case k_p_Weave_came => k_is)
    (case a_p_Riffle_init => k_is)
    (case i_p_Riffle_init => k_is)
    (case l_p_Riffle_init => k_is)
    (case c_p_Riffle_init => k_is)
    (case k_p_Riffle_init => k_is)
    (case a_p_Riffle_came => k_is)
    (case i_p_Riffle_came => k_is)
    (case l_p_Riffle_came => k_is)
    (case c_p_Riffle_came => k_is)
    (case k_p_Riffle_came => k_is)
    (case a_p_check_moves => k_is)
    (case l_p_check_moves => k_is)
    (case c_p_check_moves => k_is)
    (case k_p_check_moves => k_is)
    (case a_p_done_all => k_is)
    (case l_p_done_all => k_is)
    (case c_p_done_all => k_is)
    (case k_p_done_all => k_is)
    (case a_p_move_text => k_is)
    (case l_p_move_text => k_is)
    (case c_p_move_text => k_is)
    (case k_p_move_text => k_is)
    (case a_p_written => k_is)
    (case l_p_written => k_is)
    (case c_p_written => k_is)
    (case k_p_written => k_is)
    (case a_p_number_in => k_is)
    (case l_p_number_in => k_is)
    (case c_p_number_in => k_is)
    (case k_p_number_in => k_is)
    (case a_p_move_in => k_is)
    (case l_p_move_in => k_is)
    (case c_p_move_in => k_is)
    (case k_p_move_in => k_is)
    (case a_p_read => k_is)
    (case l_p_read => k_is)
    (case c_p_read => k_is)
    (case k_p_read => k_is)
    (case a_l_cell_at => k_is)
    (case l_l_cell_at => k_is)
    (case c_l_cell_at => k_is)
    (case k_l_cell_at => k_is)
    (case a_l_draw => k_is)
    (case l_l_draw => k_is)
    (case c_l_draw => k_is)
    (case k_l_draw => k_is)
    (case a_l_order => k_is)
    (case l_l_order => k_is)
    (case c_l_order => k_is)
    (case k_l_order => k_is)
    (case a_l_many => k_is)
    (case l_l_many => k_is)
    (case c_l_many => k_is)
    (case k_l_many => k_is)
    (case a_l_word => k_is)
    (case l_l_word => k_is)
    (case c_l_word => k_is)
    (case k_l_word => k_is)
    (case a_l_riffled => k_is)
    (case l_l_riffled => k_is)
    (case c_l_riffled => k_is)
    (case k_l_riffled => k_is)
    (case a_l_dealt => k_is)
    (case l_l_dealt => k_is)
    (case c_l_dealt => k_is)
    (case k_l_dealt => k_is)
    (case a_l_under => k_is)
    (case l_l_under => k_is)
    (case c_l_under => k_is)
    (case k_l_under => k_is)
    (case a_l_moved => k_is)
    (case l_l_moved => k_is)
    (case c_l_moved => k_is)
    (case k_l_moved => k_is)
    (case a_l_told => k_is)
    (case l_l_told => k_is)
    (case c_l_told => k_is)
    (case k_l_told => k_is)
    (case a_l_made => k_is)
    (case l_l_made => k_is)
    (case c_l_made => k_is)
    (case k_l_made => k_is)
    (case a_l_text => k_is)
    (case l_l_text => k_is)
    (case c_l_text => k_is)
    (case k_l_text => k_is)
    (case a_l_number => k_is)
    (case l_l_number => k_is)
    (case c_l_number => k_is)
    (case k_l_number => k_is)
    (case a_l_writes => k_is)
    (case l_l_writes => k_is)
    (case c_l_writes => k_is)
    (case k_l_writes => k_is)
    (case a_l_refused => k_is)
    (case l_l_refused => k_is)
    (case c_l_refused => k_is)
    (case k_l_refused => k_is)
    (case a_l_few => k_is)
    (case l_l_few => k_is)
    (case c_l_few => k_is)
    (case k_l_few => k_is)
    (case a_law => k_is)
    (case l_law => k_is)
    (case c_law => k_is)
    (case k_law => k_is)
    (case pg_Cut => k_is)
    (case hd_Cut => k_is)
    (case po_Cut => k_is)
    (case sa_Cut => k_is)
    (case mk_Cut => k_is)
    (case kc_Cut => k_is)
    (case hc_Cut => k_is)
    (case mo_Cut => k_is)
    (case eq_Cut => k_is)
    (case n_Cut_many => k_is)
    (case me_Cut_done => k_is)
    (case pg_Turn => k_is)
    (case hd_Turn => k_is)
    (case po_Turn => k_is)
    (case sa_Turn => k_is)
    (case mk_Turn => k_is)
    (case kc_Turn => k_is)
    (case hc_Turn => k_is)
    (case mo_Turn => k_is)
    (case eq_Turn => k_is)
    (case oi_Turn => k_is)
    (case me_Turn_done => k_is)
    (case pg_Deal => k_is)
    (case hd_Deal => k_is)
    (case po_Deal => k_is)
    (case sa_Deal => k_is)
    (case mk_Deal => k_is)
    (case kc_Deal => k_is)
    (case hc_Deal => k_is)
    (case mo_Deal => k_is)
    (case eq_Deal => k_is)
    (case n_Deal_piles => k_is)
    (case me_Deal_done => k_is)
    (case pg_Under => k_is)
    (case hd_Under => k_is)
    (case po_Under => k_is)
    (case sa_Under => k_is)
    (case mk_Under => k_is)
    (case kc_Under => k_is)
    (case hc_Under => k_is)
    (case mo_Under => k_is)
    (case eq_Under => k_is)
    (case oi_Under => k_is)
    (case me_Under_done => k_is)
    (case pg_Weave => k_is)
    (case hd_Weave => k_is)
    (case po_Weave => k_is)
    (case sa_Weave => k_is)
    (case mk_Weave => k_is)
    (case kc_Weave => k_is)
    (case hc_Weave => k_is)
    (case mo_Weave => k_is)
    (case eq_Weave => k_is)
    (case n_Weave_first => k_is)
    (case me_Weave_done => k_is)
    (case pg_Riffle => k_is)
    (case hd_Riffle => k_is)
    (case po_Riffle => k_is)
    (case sa_Riffle => k_is)
    (case mk_Riffle => k_is)
    (case kc_Riffle => k_is)
    (case hc_Riffle => k_is)
    (case mo_Riffle => k_is)
    (case eq_Riffle => k_is)
    (case n_Riffle_word => k_is)
    (case me_Riffle_done => k_is)
    (case sp_cls => k_is)
    (case tk_cls => k_is)
    (case sub_Cut_Cut => k_is)
    (case sub_Cut_Turn => k_is)
    (case ne_Cut_Turn => rfl)
    (case sub_Cut_Deal => k_is)
    (case ne_Cut_Deal => rfl)
    (case sub_Cut_Under => k_is)
    (case ne_Cut_Under => rfl)
    (case sub_Cut_Weave => k_is)
    (case ne_Cut_Weave => rfl)
    (case sub_Cut_Riffle => k_is)
    (case ne_Cut_Riffle => rfl)
    (case sub_Cut_Move => k_is)
    (case sub_Turn_Cut => k_is)
    (case ne_Turn_Cut => rfl)
    (case sub_Turn_Turn => k_is)
    (case sub_Turn_Deal => k_is)
    (case ne_Turn_Deal => rfl)
    (case sub_Turn_Under => k_is)
    (case ne_Turn_Under => rfl)
    (case sub_Turn_Weave => k_is)
    (case ne_Turn_Weave => rfl)
    (case sub_Turn_Riffle => k_is)
    (case ne_Turn_Riffle => rfl)
    (case sub_Turn_Move => k_is)
    (case sub_Deal_Cut => k_is)
    (case ne_Deal_Cut => rfl)
    (case sub_Deal_Turn => k_is)
    (case ne_Deal_Turn => rfl)
    (case sub_Deal_Deal => k_is)
    (case sub_Deal_Under => k_is)
    (case ne_Deal_Under => rfl)
    (case sub_Deal_Weave => k_is)
    (case ne_Deal_Weave => rfl)
    (case sub_Deal_Riffle => k_is)
    (case ne_Deal_Riffle => rfl)
    (case sub_Deal_Move => k_is)
    (case sub_Under_Cut => k_is)
    (case ne_Under_Cut => rfl)
    (case sub_Under_Turn => k_is)
    (case ne_Under_Turn => rfl)
    (case sub_Under_Deal => k_is)
    (case ne_Under_Deal => rfl)
    (case sub_Under_Under => k_is)
    (case sub_Under_Weave => k_is)
    (case ne_Under_Weave => rfl)
    (case sub_Under_Riffle => k_is)
    (case ne_Under_Riffle => rfl)
    (case sub_Under_Move => k_is)
    (case sub_Weave_Cut => k_is)
    (case ne_Weave_Cut => rfl)
    (case sub_Weave_Turn => k_is)
    (case ne_Weave_Turn => rfl)
    (case sub_Weave_Deal => k_is)
    (case ne_Weave_Deal => rfl)
    (case sub_Weave_Under => k_is)
    (case ne_Weave_Under => rfl)
    (case sub_Weave_Weave => k_is)
    (case sub_Weave_Riffle => k_is)
    (case ne_Weave_Riffle => rfl)
    (case sub_Weave_Move => k_is)
    (case sub_Riffle_Cut => k_is)
    (case ne_Riffle_Cut => rfl)
    (case sub_Riffle_Turn => k_is)
    (case ne_Riffle_Turn => rfl)
    (case sub_Riffle_Deal => k_is)
    (case ne_Riffle_Deal => rfl)
    (case sub_Riffle_Under => k_is)
    (case ne_Riffle_Under => rfl)
    (case sub_Riffle_Weave => k_is)
    (case ne_Riffle_Weave => rfl)
    (case sub_Riffle_Riffle => k_is)
    (case sub_Riffle_Move => k_is)
    (case ic_Cut => k_is)
    (case tc_Cut => k_is)
    (case ic_Turn => k_is)
    (case tc_Turn => k_is)
    (case ic_Deal => k_is)
    (case tc_Deal => k_is)
    (case ic_Under => k_is)
    (case tc_Under => k_is)
    (case ic_Weave => k_is)
    (case tc_Weave => k_is)
    (case ic_Riffle => k_is)
    (case tc_Riffle => k_is)
    (case ic_Move => k_is)
    (case tc_Move => k_is)
    (case ex_BadText => k_exc)
    (case ek_BadText => k_is)
    (case ex_BadMove => k_exc)
    (case ek_BadMove => k_is)
    (case eb_BadText => k_is)
    (case et_BadText => k_is)
    (case ed_BadText => k_is)
    (case ei_BadText => k_is)
    (case eb_BadMove => k_is)
    (case et_BadMove => k_is)
    (case ed_BadMove => k_is)
    (case ei_BadMove => k_is)
    (case eb_BadNumber => k_is)
    (case et_BadNumber => k_is)
    (case ed_BadNumber => k_is)
    (case ei_BadNumber => k_is)
    (case eb_BadOrder => k_is)
    (case et_BadOrder => k_is)
    (case ed_BadOrder => k_is)
    (case ei_BadOrder => k_is)
    (case eb_PackError => k_is)
    (case et_PackError => k_is)
    (case ed_PackError => k_is)
    (case ei_PackError => k_is)
    (case es_BadText_BadText => k_is)
    (case es_BadText_BadMove => k_is)
    (case ne_BadText_BadMove => rfl)
    (case es_BadText_BadNumber => k_is)
    (case ne_BadText_BadNumber => rfl)
    (case es_BadText_BadOrder => k_is)
    (case ne_BadText_BadOrder => rfl)
    (case es_BadText_PackError => k_is)
    (case ne_BadText_PackError => rfl)
    (case es_BadMove_BadMove => k_is)
    (case es_BadText_VE => k_is)
    (case ega => k_is)
    (case egt => k_is)
    (case eca => k_is)
    (case emo => k_is)
    (case b_ValueError => k_is)
    (case b_bool => k_is)
    (case b_int => k_is)
    (case b_isinstance => k_is)
    (case b_len => k_is)
    (case b_list => k_is)
    (case b_range => k_is)
    (case b_reversed => k_is)
    (case b_set => k_is)
    (case b_str => k_is)
    (case v_FIGURES => k_is)
    (case v_MOST => k_is)
