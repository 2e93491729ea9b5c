import PyProof.Rows.All
import Wide.All
import OpenK.AllK
import Wide.FinOn
import HandS.ForMost
import HandS.Zip
import HandS.Walk
import HandS.NoneIn
import HandS.TupSets
import HandS.Style
import HandS.IsInst
import HandS.Wide
import HandS.More
import PySem.Challenge.RW_unturned_k12_whole_ways_laid_together
set_option linter.all false
set_option maxRecDepth 10000
set_option maxHeartbeats 4000000
/-! The plain mathematics: webs of roads, closed chains, streams taken apart. No program here. -/
namespace U12

structure Road where
  b : Option Nat
  e : Option Nat
  r : Int

def Bg (rs : List Road) (k : Nat) : Option Nat := (rs[k]?).bind Road.b
def En (rs : List Road) (k : Nat) : Option Nat := (rs[k]?).bind Road.e

/-! ### sums over places -/
def sumTo (f : Nat → Int) : Nat → Int
  | 0 => 0
  | n + 1 => sumTo f n + f n
theorem sumTo_congr {f g : Nat → Int} : ∀ {n : Nat}, (∀ k, k < n → f k = g k) → sumTo f n = sumTo g n
  | 0, _ => rfl
  | n + 1, h => by
    show sumTo f n + f n = sumTo g n + g n
    rw [sumTo_congr fun k hk => h k (Nat.lt_succ_of_lt hk), h n (Nat.lt_succ_self n)]
theorem sumTo_upd {f g : Nat → Int} {k : Nat} : ∀ {n : Nat}, k < n → (∀ j, j < n → j ≠ k → g j = f j) → sumTo g n = sumTo f n + (g k - f k)
  | 0, h, _ => absurd h (Nat.not_lt_zero _)
  | n + 1, h, e => by
    show sumTo g n + g n = sumTo f n + f n + (g k - f k)
    by_cases c : k = n
    · subst c
      rw [sumTo_congr (f := g) (g := f) fun j hj => e j (Nat.lt_succ_of_lt hj) (Nat.ne_of_lt hj)]
      omega
    · have hk : k < n := by omega
      rw [sumTo_upd hk fun j hj hne => e j (Nat.lt_succ_of_lt hj) hne, e n (Nat.lt_succ_self n) (fun z => c z.symm)]
      omega
theorem sumTo_nonneg {f : Nat → Int} : ∀ {n : Nat}, (∀ k, k < n → 0 ≤ f k) → 0 ≤ sumTo f n
  | 0, _ => Int.le_refl 0
  | n + 1, h => by
    have a := sumTo_nonneg (f := f) (n := n) fun k hk => h k (Nat.lt_succ_of_lt hk)
    have b := h n (Nat.lt_succ_self n)
    show 0 ≤ sumTo f n + f n
    omega
theorem sumTo_pos {f : Nat → Int} {k : Nat} : ∀ {n : Nat}, (∀ j, j < n → 0 ≤ f j) → k < n → 0 < f k → 0 < sumTo f n
  | 0, _, h, _ => absurd h (Nat.not_lt_zero _)
  | n + 1, h, hk, p => by
    have b := h n (Nat.lt_succ_self n)
    show 0 < sumTo f n + f n
    by_cases c : k = n
    · subst c
      have a := sumTo_nonneg (f := f) (n := k) fun j hj => h j (Nat.lt_succ_of_lt hj)
      omega
    · have a := sumTo_pos (n := n) (fun j hj => h j (Nat.lt_succ_of_lt hj)) (by omega) p
      omega
theorem pos_at {f : Nat → Int} : ∀ {n : Nat}, 0 < sumTo f n → ∃ k, k < n ∧ 0 < f k
  | 0, h => absurd h (Int.lt_irrefl 0)
  | n + 1, h => by
    have h' : 0 < sumTo f n + f n := h
    by_cases c : 0 < f n
    · exact ⟨n, Nat.lt_succ_self n, c⟩
    · obtain ⟨k, hk, p⟩ := pos_at (f := f) (n := n) (by omega)
      exact ⟨k, Nat.lt_succ_of_lt hk, p⟩

/-! ### more borne on a road -/
def addAt (bs : List Int) (k : Nat) (c : Int) : List Int := bs.set k (bs.getD k 0 + c)
theorem addAt_length (bs : List Int) (k : Nat) (c : Int) : (addAt bs k c).length = bs.length := by
  unfold addAt
  rw [List.length_set]
theorem addAt_getD {bs : List Int} {k : Nat} (c : Int) (j : Nat) (hk : k < bs.length) : (addAt bs k c).getD j 0 = bs.getD j 0 + if k = j then c else 0 := by
  unfold addAt
  rw [List.getD_eq_getElem?_getD, List.getElem?_set]
  by_cases e : k = j
  · subst e
    simp [hk]
  · simp [e]
def addAll (bs : List Int) (row : List Nat) (c : Int) : List Int := row.foldl (fun b k => addAt b k c) bs
theorem addAll_cons (bs : List Int) (k : Nat) (r : List Nat) (c : Int) : addAll bs (k :: r) c = addAll (addAt bs k c) r c := rfl
theorem addAll_snoc (bs : List Int) (k : Nat) (r : List Nat) (c : Int) : addAll bs (r ++ [k]) c = addAt (addAll bs r c) k c := by
  unfold addAll
  rw [List.foldl_append]
  rfl
theorem addAll_length (c : Int) : ∀ (r : List Nat) (bs : List Int), (addAll bs r c).length = bs.length
  | [], _ => rfl
  | k :: r, bs => by rw [addAll_cons, addAll_length c r, addAt_length]
theorem addAll_getD (c : Int) (j : Nat) : ∀ (r : List Nat) (bs : List Int), (∀ k, k ∈ r → k < bs.length) → (addAll bs r c).getD j 0 = bs.getD j 0 + c * ((r.count j : Nat) : Int)
  | [], bs, _ => by
    show bs.getD j 0 = bs.getD j 0 + c * ((0 : Nat) : Int)
    simp
  | k :: r, bs, h => by
    rw [addAll_cons, addAll_getD c j r _ fun i hi => by rw [addAt_length]; exact h i (List.mem_cons_of_mem _ hi)]
    rw [addAt_getD c j (h k List.mem_cons_self), List.count_cons]
    by_cases e : k = j
    · subst e
      simp only [if_true, beq_self_eq_true]
      rw [show (((r.count k + 1 : Nat)) : Int) = ((r.count k : Nat) : Int) + 1 by omega, Int.mul_add, Int.mul_one]
      omega
    · have e2 : (k == j) = false := by simpa using e
      simp [e, e2]

/-! ### what flows -/
def fl (side : Nat → Option Nat) (bs : List Int) (x : Option Nat) (n : Nat) : Int := sumTo (fun k => if side k = x then bs.getD k 0 else 0) n
theorem fl_succ (side : Nat → Option Nat) (bs : List Int) (x : Option Nat) (n : Nat) : fl side bs x (n + 1) = fl side bs x n + if side n = x then bs.getD n 0 else 0 := rfl
theorem fl_addAt {side : Nat → Option Nat} {bs : List Int} {x : Option Nat} {n k : Nat} (c : Int) (hn : k < n) (hk : k < bs.length) :
    fl side (addAt bs k c) x n = fl side bs x n + if side k = x then c else 0 := by
  unfold fl
  rw [sumTo_upd (f := fun j => if side j = x then bs.getD j 0 else 0) hn (fun j _ hne => ?_)]
  · rw [addAt_getD c k hk]
    by_cases e : side k = x
    · simp only [e, if_true]
      omega
    · simp only [e, if_false]
      omega
  · rw [addAt_getD c j hk]
    have : ¬ k = j := fun z => hne z.symm
    simp [this]
def Bal (rs : List Road) (bs : List Int) : Prop := ∀ x, fl (Bg rs) bs x rs.length = fl (En rs) bs x rs.length

/-- a walk from x to y -/
def Chain (rs : List Road) : Option Nat → List Nat → Option Nat → Prop
  | x, [], y => x = y
  | x, k :: r, y => Bg rs k = x ∧ Chain rs (En rs k) r y
theorem chain_snoc {rs : List Road} {k : Nat} : ∀ {r : List Nat} {x y : Option Nat}, Chain rs x r y → Bg rs k = y → Chain rs x (r ++ [k]) (En rs k)
  | [], x, y, h, e => by
    have h : x = y := h
    exact ⟨e.trans h.symm, rfl⟩
  | j :: r, x, y, h, e => ⟨h.1, chain_snoc (r := r) h.2 e⟩
theorem chain_app {rs : List Road} {q : List Nat} {z : Option Nat} : ∀ {r : List Nat} {x y : Option Nat}, Chain rs x r y → Chain rs y q z → Chain rs x (r ++ q) z
  | [], x, y, h, e => by
    have h : x = y := h
    rw [h]
    exact e
  | j :: r, x, y, h, e => ⟨h.1, chain_app (r := r) h.2 e⟩
/-- cut in two -/
theorem chain_cut {rs : List Road} {z : Option Nat} : ∀ {r q : List Nat} {x : Option Nat}, Chain rs x (r ++ q) z → ∃ y, Chain rs x r y ∧ Chain rs y q z
  | [], q, x, h => ⟨x, rfl, h⟩
  | j :: r, q, x, h => by
    obtain ⟨y, a, b⟩ := chain_cut (r := r) h.2
    exact ⟨y, ⟨h.1, a⟩, b⟩
theorem chain_head {rs : List Road} {k : Nat} {r : List Nat} {x y : Option Nat} (h : Chain rs x (k :: r) y) : Bg rs k = x := h.1
theorem chain_last {rs : List Road} : ∀ {r : List Nat} {x y : Option Nat} {k : Nat}, Chain rs x r y → r.getLast? = some k → En rs k = y
  | [], _, _, _, _, e => by simp at e
  | [j], x, y, k, h, e => by
    have e2 : j = k := by simpa using e
    subst e2
    exact h.2
  | j :: i :: r, x, y, k, h, e => chain_last (r := i :: r) h.2 (by rw [← e, List.getLast?_cons_cons])
/-- where a walk begins and where it ends -/
theorem chain_links {rs : List Road} : ∀ {r : List Nat} {x y : Option Nat}, Chain rs x r y → (r.map (Bg rs)).tail = (r.map (En rs)).dropLast
  | [], _, _, _ => rfl
  | [j], _, _, _ => rfl
  | j :: i :: r, x, y, h => by
    have ih := chain_links (r := i :: r) h.2
    have e : Bg rs i = En rs j := h.2.1
    show Bg rs i :: r.map (Bg rs) = En rs j :: (((i :: r).map (En rs)).dropLast)
    rw [← ih, e]
    rfl
theorem fl_chain {rs : List Road} {n : Nat} (c : Int) (z : Option Nat) : ∀ {r : List Nat} {x y : Option Nat} {bs : List Int}, Chain rs x r y → (∀ k, k ∈ r → k < n) → n ≤ bs.length →
    fl (Bg rs) (addAll bs r c) z n - fl (En rs) (addAll bs r c) z n = fl (Bg rs) bs z n - fl (En rs) bs z n + (if x = z then c else 0) - (if y = z then c else 0)
  | [], x, y, bs, h, _, _ => by
    have h : x = y := h
    subst h
    show fl (Bg rs) bs z n - fl (En rs) bs z n = _
    omega
  | k :: r, x, y, bs, h, hk, hn => by
    rw [addAll_cons]
    have hkn := hk k List.mem_cons_self
    have ih := fl_chain c z (bs := addAt bs k c) h.2 (fun i hi => hk i (List.mem_cons_of_mem _ hi)) (by rw [addAt_length]; exact hn)
    rw [ih, fl_addAt c hkn (Nat.lt_of_lt_of_le hkn hn), fl_addAt c hkn (Nat.lt_of_lt_of_le hkn hn), h.1]
    omega
theorem Bal.closed {rs : List Road} {bs : List Int} {r : List Nat} {x : Option Nat} (c : Int) (b : Bal rs bs) (h : Chain rs x r x) (hk : ∀ k, k ∈ r → k < rs.length) (hn : bs.length = rs.length) : Bal rs (addAll bs r c) := fun z => by
  have q := fl_chain c z h hk (Nat.le_of_eq hn.symm)
  have e := b z
  omega
theorem Bal.zero (rs : List Road) : Bal rs (List.replicate rs.length 0) := fun x => by
  have e : ∀ side : Nat → Option Nat, fl side (List.replicate rs.length 0) x rs.length = 0 := fun side => by
    unfold fl
    have q : sumTo (fun k => if side k = x then (List.replicate rs.length (0 : Int)).getD k 0 else 0) rs.length = sumTo (fun _ => 0) rs.length := sumTo_congr fun k hk => by
      simp [hk]
    rw [q]
    have : ∀ n, sumTo (fun _ => 0) n = 0 := fun n => by
      induction n with
      | zero => rfl
      | succ n ih =>
        show sumTo (fun _ => 0) n + 0 = 0
        omega
    exact this _
  rw [e, e]
/-- where something comes, something goes -/
theorem Bal.goes {rs : List Road} {bs : List Int} (b : Bal rs bs) (nn : ∀ j, j < rs.length → 0 ≤ bs.getD j 0) {k : Nat} (hk : k < rs.length) (p : 0 < bs.getD k 0) :
    ∃ j, j < rs.length ∧ Bg rs j = En rs k ∧ 0 < bs.getD j 0 := by
  have q : 0 < fl (En rs) bs (En rs k) rs.length := by
    refine sumTo_pos (k := k) (fun j hj => ?_) hk ?_
    · split
      · exact nn j hj
      · exact Int.le_refl 0
    · rw [if_pos rfl]
      exact p
  rw [← b (En rs k)] at q
  obtain ⟨j, hj, r⟩ := pos_at q
  by_cases e : Bg rs j = En rs k
  · rw [if_pos e] at r
    exact ⟨j, hj, e, r⟩
  · rw [if_neg e] at r
    exact absurd r (Int.lt_irrefl 0)

/-! ### how many -/
theorem nodup_le {α : Type} [DecidableEq α] : ∀ (l D : List α), l.Nodup → (∀ x, x ∈ l → x ∈ D) → l.length ≤ D.length
  | [], _, _, _ => Nat.zero_le _
  | x :: t, D, nd, h => by
    have hx := h x List.mem_cons_self
    have nd' := List.nodup_cons.mp nd
    have ih := nodup_le t (D.erase x) nd'.2 fun y hy => (List.mem_erase_of_ne (fun z : y = x => nd'.1 (by rw [← z]; exact hy))).mpr (h y (List.mem_cons_of_mem _ hy))
    have e := List.length_erase_of_mem hx
    have p : 0 < D.length := List.length_pos_of_mem hx
    show t.length + 1 ≤ D.length
    omega
theorem nodup_lt {l : List Nat} {n : Nat} (nd : l.Nodup) (h : ∀ x, x ∈ l → x < n) : l.length ≤ n := by
  have q := nodup_le l (List.range n) nd fun x hx => List.mem_range.mpr (h x hx)
  rwa [List.length_range] at q
theorem nodup_opt {l : List (Option Nat)} {n : Nat} (nd : l.Nodup) (h : ∀ x, some x ∈ l → x < n) : l.length ≤ n + 1 := by
  have q := nodup_le l (none :: (List.range n).map some) nd fun x hx => by
    cases x with
    | none => exact List.mem_cons_self
    | some y => exact List.mem_cons_of_mem _ (List.mem_map.mpr ⟨y, List.mem_range.mpr (h y hx), rfl⟩)
  rw [List.length_cons, List.length_map, List.length_range] at q
  exact q
theorem nodup_of_map {α β : Type} {f : α → β} : ∀ {l : List α}, (l.map f).Nodup → l.Nodup
  | [], _ => List.nodup_nil
  | x :: t, h => by
    have h := List.nodup_cons.mp h
    exact List.nodup_cons.mpr ⟨fun hx => h.1 (List.mem_map.mpr ⟨x, hx, rfl⟩), nodup_of_map h.2⟩

/-- how many of the first n bear something -/
def supTo (bs : List Int) : Nat → Nat
  | 0 => 0
  | n + 1 => supTo bs n + if 0 < bs.getD n 0 then 1 else 0
theorem supTo_le (bs : List Int) : ∀ n, supTo bs n ≤ n
  | 0 => Nat.le_refl 0
  | n + 1 => by
    have ih := supTo_le bs n
    show supTo bs n + _ ≤ n + 1
    split <;> omega
theorem supTo_mono {bs cs : List Int} : ∀ {n : Nat}, (∀ j, j < n → cs.getD j 0 ≤ bs.getD j 0) → supTo cs n ≤ supTo bs n
  | 0, _ => Nat.le_refl 0
  | n + 1, h => by
    have ih := supTo_mono (n := n) fun j hj => h j (Nat.lt_succ_of_lt hj)
    have q := h n (Nat.lt_succ_self n)
    show supTo cs n + _ ≤ supTo bs n + _
    by_cases a : 0 < cs.getD n 0
    · rw [if_pos a, if_pos (Int.lt_of_lt_of_le a q)]
      omega
    · rw [if_neg a]
      split <;> omega
theorem supTo_less {bs cs : List Int} {k : Nat} : ∀ {n : Nat}, (∀ j, j < n → cs.getD j 0 ≤ bs.getD j 0) → k < n → 0 < bs.getD k 0 → cs.getD k 0 ≤ 0 → supTo cs n < supTo bs n
  | 0, _, h, _, _ => absurd h (Nat.not_lt_zero _)
  | n + 1, h, hk, p, z => by
    have q := h n (Nat.lt_succ_self n)
    show supTo cs n + _ < supTo bs n + _
    by_cases c : k = n
    · subst c
      have ih := supTo_mono (n := k) fun j hj => h j (Nat.lt_succ_of_lt hj)
      rw [if_pos p, if_neg (by omega)]
      omega
    · have ih := supTo_less (n := n) (fun j hj => h j (Nat.lt_succ_of_lt hj)) (by omega) p z
      by_cases a : 0 < cs.getD n 0
      · rw [if_pos a, if_pos (Int.lt_of_lt_of_le a q)]
        omega
      · rw [if_neg a]
        split <;> omega

/-! ### ways and rings -/
/-- closed, no house begun at twice; outside at most where it begins -/
structure Cyc (rs : List Road) (row : List Nat) (x : Option Nat) : Prop where
  ne : row ≠ []
  lt : ∀ k, k ∈ row → k < rs.length
  ch : Chain rs x row x
  nd : (row.map (Bg rs)).Nodup
  nn : none ∉ (row.map (Bg rs)).tail
/-- a way, or a ring told from its least road on -/
structure WayOk (rs : List Road) (row : List Nat) : Prop where
  cyc : ∃ x, Cyc rs row x ∧ (x ≠ none → ∀ k, row.head? = some k → ∀ j, j ∈ row → k ≤ j)
theorem Cyc.len {rs : List Road} {row : List Nat} {x : Option Nat} (c : Cyc rs row x) : row.length ≤ rs.length := nodup_lt (nodup_of_map c.nd) c.lt
theorem Cyc.nodup {rs : List Road} {row : List Nat} {x : Option Nat} (c : Cyc rs row x) : row.Nodup := nodup_of_map c.nd
theorem Cyc.noNone {rs : List Road} {row : List Nat} {x : Option Nat} (c : Cyc rs row x) (hx : x ≠ none) : none ∉ row.map (Bg rs) := fun h => by
  obtain ⟨ne, lt, ch, nd, nn⟩ := c
  cases row with
  | nil => exact ne rfl
  | cons k r =>
    rcases List.mem_cons.mp h with e | h
    · exact hx (ch.1.symm.trans e.symm)
    · exact nn h
/-- told from another of its roads on -/
theorem Cyc.turn {rs : List Road} {p q : List Nat} {x : Option Nat} (c : Cyc rs (p ++ q) x) (hx : x ≠ none) (hq : q ≠ []) : ∃ y, y ≠ none ∧ Cyc rs (q ++ p) y := by
  obtain ⟨y, a, b⟩ := chain_cut c.ch
  have nN := c.noNone hx
  have pm : (q ++ p).Perm (p ++ q) := List.perm_append_comm
  have hy : y ≠ none := fun e => by
    cases q with
    | nil => exact hq rfl
    | cons k r => exact nN (List.mem_map.mpr ⟨k, List.mem_append_right _ List.mem_cons_self, b.1.trans e⟩)
  refine ⟨y, hy, ⟨fun e => hq (List.append_eq_nil_iff.mp e).1, fun k hk => c.lt k (pm.mem_iff.mp hk), chain_app b a, (pm.map _).nodup_iff.mpr c.nd, fun h => nN ((pm.map _).mem_iff.mp (List.mem_of_mem_tail h))⟩⟩

/-! ### bundles -/
abbrev Rows := List (List Nat × Int)
def tot (rows : Rows) (j : Nat) : Int := (rows.map fun p => p.2 * ((p.1.count j : Nat) : Int)).sum
theorem tot_app (a b : Rows) (j : Nat) : tot (a ++ b) j = tot a j + tot b j := by
  unfold tot
  rw [List.map_append, List.sum_append]
theorem tot_one (p : List Nat × Int) (j : Nat) : tot [p] j = p.2 * ((p.1.count j : Nat) : Int) := by
  unfold tot
  simp
theorem tot_nonneg {rows : Rows} (h : ∀ p, p ∈ rows → 0 < p.2) (j : Nat) : 0 ≤ tot rows j := by
  induction rows with
  | nil => exact Int.le_refl 0
  | cons p r ih =>
    have a := ih fun q hq => h q (List.mem_cons_of_mem _ hq)
    have b : 0 ≤ p.2 * ((p.1.count j : Nat) : Int) := Int.mul_nonneg (Int.le_of_lt (h p List.mem_cons_self)) (Int.natCast_nonneg _)
    have e : tot (p :: r) j = p.2 * ((p.1.count j : Nat) : Int) + tot r j := by
      unfold tot
      rw [List.map_cons, List.sum_cons]
    omega
def foundOf (m : Nat) (rows : Rows) : List Int := rows.foldl (fun f p => addAll f p.1 p.2) (List.replicate m 0)
theorem foundOf_snoc (m : Nat) (rows : Rows) (p : List Nat × Int) : foundOf m (rows ++ [p]) = addAll (foundOf m rows) p.1 p.2 := by
  unfold foundOf
  rw [List.foldl_append]
  rfl
theorem fold_length : ∀ (rows : Rows) (f : List Int), (rows.foldl (fun f p => addAll f p.1 p.2) f).length = f.length
  | [], _ => rfl
  | p :: r, f => by
    show (r.foldl (fun f p => addAll f p.1 p.2) (addAll f p.1 p.2)).length = f.length
    rw [fold_length r, addAll_length]
theorem foundOf_length (m : Nat) (rows : Rows) : (foundOf m rows).length = m := by
  unfold foundOf
  rw [fold_length, List.length_replicate]
theorem fold_getD (j : Nat) : ∀ (rows : Rows) (f : List Int), (∀ p, p ∈ rows → ∀ k, k ∈ p.1 → k < f.length) → (rows.foldl (fun f p => addAll f p.1 p.2) f).getD j 0 = f.getD j 0 + tot rows j
  | [], f, _ => by
    show f.getD j 0 = f.getD j 0 + 0
    omega
  | p :: r, f, h => by
    show (r.foldl (fun f p => addAll f p.1 p.2) (addAll f p.1 p.2)).getD j 0 = _
    rw [fold_getD j r _ fun q hq k hk => by rw [addAll_length]; exact h q (List.mem_cons_of_mem _ hq) k hk, addAll_getD _ _ _ _ (h p List.mem_cons_self)]
    have e : tot (p :: r) j = p.2 * ((p.1.count j : Nat) : Int) + tot r j := by
      unfold tot
      rw [List.map_cons, List.sum_cons]
    rw [e]
    omega
theorem foundOf_getD {m : Nat} {rows : Rows} (h : ∀ p, p ∈ rows → ∀ k, k ∈ p.1 → k < m) (j : Nat) : (foundOf m rows).getD j 0 = tot rows j := by
  unfold foundOf
  rw [fold_getD j rows _ fun p hp k hk => by rw [List.length_replicate]; exact h p hp k hk]
  have e : (List.replicate m (0 : Int)).getD j 0 = 0 := by
    rw [List.getD_eq_getElem?_getD, List.getElem?_replicate]
    split <;> rfl
  rw [e]
  omega
theorem ext_getD {a b : List Int} (hl : a.length = b.length) (h : ∀ j, j < a.length → a.getD j 0 = b.getD j 0) : a = b := by
  refine List.ext_getElem hl fun j h1 h2 => ?_
  have q := h j h1
  rw [List.getD_eq_getElem?_getD, List.getD_eq_getElem?_getD, List.getElem?_eq_getElem h1, List.getElem?_eq_getElem h2] at q
  exact q

/-- rows taken so far, and what is left -/
structure Taken (rs : List Road) (stream bs : List Int) (rows : Rows) : Prop where
  len : bs.length = rs.length
  nn : ∀ j, j < rs.length → 0 ≤ bs.getD j 0
  bal : Bal rs bs
  sum : ∀ j, j < rs.length → stream.getD j 0 = bs.getD j 0 + tot rows j
  ways : ∀ p, p ∈ rows → WayOk rs p.1 ∧ 0 < p.2
  nd : (rows.map (·.1)).Nodup
  spent : ∀ p, p ∈ rows → ∃ z, z ∈ p.1 ∧ bs.getD z 0 ≤ 0
  few : rows.length + supTo bs rs.length ≤ rs.length
theorem Taken.start {rs : List Road} {stream : List Int} (hl : stream.length = rs.length) (nn : ∀ j, j < rs.length → 0 ≤ stream.getD j 0) (b : Bal rs stream) : Taken rs stream stream [] where
  len := hl
  nn := nn
  bal := b
  sum := fun j _ => by
    show stream.getD j 0 = stream.getD j 0 + 0
    omega
  ways := fun p h => by cases h
  nd := List.nodup_nil
  spent := fun p h => by cases h
  few := by
    have q := supTo_le stream rs.length
    show 0 + supTo stream rs.length ≤ rs.length
    omega
theorem count_one {l : List Nat} (nd : l.Nodup) (j : Nat) : l.count j = if j ∈ l then 1 else 0 := by
  by_cases h : j ∈ l
  · rw [if_pos h]
    exact Nat.le_antisymm (List.nodup_iff_count.mp nd j) (List.one_le_count_iff.mpr h)
  · rw [if_neg h]
    exact List.count_eq_zero_of_not_mem h
/-- one row more -/
theorem Taken.more {rs : List Road} {stream bs : List Int} {rows : Rows} {row roads : List Nat} {x : Option Nat} {many : Int} (t : Taken rs stream bs rows) (c : Cyc rs row x) (pos : ∀ k, k ∈ row → 0 < bs.getD k 0)
    (hm : ∃ k, k ∈ row ∧ bs.getD k 0 = many) (hle : ∀ k, k ∈ row → many ≤ bs.getD k 0) (pm : roads.Perm row) (w : WayOk rs roads) :
    Taken rs stream (addAll bs row (-many)) (rows ++ [(roads, many)]) ∧ supTo (addAll bs row (-many)) rs.length < supTo bs rs.length ∧ ∀ j, bs.getD j 0 ≤ 0 → j < rs.length → (addAll bs row (-many)).getD j 0 ≤ 0 := by
  obtain ⟨k0, hk0, e0⟩ := hm
  have mpos : 0 < many := by
    rw [← e0]
    exact pos k0 hk0
  have at_ : ∀ j, (addAll bs row (-many)).getD j 0 = bs.getD j 0 - if j ∈ row then many else 0 := fun j => by
    rw [addAll_getD _ j row bs fun k hk => by rw [t.len]; exact c.lt k hk, count_one c.nodup j]
    split
    · rw [show (((1 : Nat)) : Int) = 1 from rfl, Int.mul_one]
      omega
    · rw [show (((0 : Nat)) : Int) = 0 from rfl, Int.mul_zero]
      omega
  have dec : ∀ j, (addAll bs row (-many)).getD j 0 ≤ bs.getD j 0 := fun j => by
    rw [at_]
    split <;> omega
  have z0 : (addAll bs row (-many)).getD k0 0 = 0 := by
    rw [at_, if_pos hk0, e0]
    omega
  have less : supTo (addAll bs row (-many)) rs.length < supTo bs rs.length := supTo_less (k := k0) (fun j _ => dec j) (c.lt k0 hk0) (pos k0 hk0) (Int.le_of_eq z0)
  refine ⟨⟨by rw [addAll_length]; exact t.len, fun j hj => ?_, t.bal.closed _ c.ch c.lt t.len, fun j hj => ?_, fun p hp => ?_, ?_, fun p hp => ?_, ?_⟩, less, fun j hj _ => Int.le_trans (dec j) hj⟩
  · rw [at_]
    by_cases h : j ∈ row
    · rw [if_pos h]
      have q := hle j h
      omega
    · rw [if_neg h]
      have q := t.nn j hj
      omega
  · rw [tot_app, tot_one, at_, t.sum j hj]
    have e : roads.count j = row.count j := pm.count_eq j
    show bs.getD j 0 + tot rows j = _ + (tot rows j + many * ((roads.count j : Nat) : Int))
    rw [e, count_one c.nodup j]
    split
    · rw [show (((1 : Nat)) : Int) = 1 from rfl, Int.mul_one]
      omega
    · rw [show (((0 : Nat)) : Int) = 0 from rfl, Int.mul_zero]
      omega
  · rcases List.mem_append.mp hp with h | h
    · exact t.ways p h
    · have e : p = (roads, many) := by simpa using h
      subst e
      exact ⟨w, mpos⟩
  · rw [List.map_append, List.nodup_append]
    refine ⟨t.nd, by simp, fun a ha b hb e => ?_⟩
    have e2 : b = roads := by simpa using hb
    subst e2
    obtain ⟨p, hp, rfl⟩ := List.mem_map.mp ha
    obtain ⟨z, hz, hz0⟩ := t.spent p hp
    rw [e] at hz
    have q := pos z (pm.mem_iff.mp hz)
    omega
  · rcases List.mem_append.mp hp with h | h
    · obtain ⟨z, hz, hz0⟩ := t.spent p h
      exact ⟨z, hz, Int.le_trans (dec z) hz0⟩
    · have e : p = (roads, many) := by simpa using h
      subst e
      exact ⟨k0, pm.mem_iff.mpr hk0, Int.le_of_eq z0⟩
  · have q := t.few
    rw [List.length_append]
    show rows.length + 1 + _ ≤ _
    omega

/-- a bundle -/
structure Bundle (rs : List Road) (stream : List Int) (rows : Rows) : Prop where
  len : rows.length ≤ rs.length
  ways : ∀ p, p ∈ rows → WayOk rs p.1 ∧ 0 < p.2
  nd : (rows.map (·.1)).Nodup
  sum : foundOf rs.length rows = stream
theorem Taken.lts {rs : List Road} {rows : Rows} (h : ∀ p, p ∈ rows → WayOk rs p.1 ∧ 0 < p.2) : ∀ p, p ∈ rows → ∀ k, k ∈ p.1 → k < rs.length := fun p hp k hk => by
  obtain ⟨x, c, _⟩ := (h p hp).1.cyc
  exact c.lt k hk
theorem Taken.done {rs : List Road} {stream bs : List Int} {rows : Rows} (t : Taken rs stream bs rows) (hs : stream.length = rs.length) (z : ∀ j, j < rs.length → bs.getD j 0 ≤ 0) : Bundle rs stream rows where
  len := by
    have q := t.few
    omega
  ways := t.ways
  nd := t.nd
  sum := by
    refine ext_getD (by rw [foundOf_length, hs]) fun j hj => ?_
    rw [foundOf_length] at hj
    rw [foundOf_getD (Taken.lts t.ways), t.sum j hj]
    have a := t.nn j hj
    have b := z j hj
    omega
/-- its rows twice over aren't one -/
theorem Bundle.twice {rs : List Road} {stream : List Int} {rows : Rows} (b : Bundle rs stream rows) (ne : rows ≠ []) : foundOf rs.length (rows ++ rows) ≠ stream := fun e => by
  cases rows with
  | nil => exact ne rfl
  | cons p r =>
    obtain ⟨w, pos⟩ := b.ways p List.mem_cons_self
    obtain ⟨x, c, _⟩ := w.cyc
    cases hp : p.1 with
    | nil => exact c.ne hp
    | cons k q =>
      have hk : k ∈ p.1 := by rw [hp]; exact List.mem_cons_self
      have lt := Taken.lts b.ways
      have e1 : tot (p :: r ++ p :: r) k = tot (p :: r) k := by
        rw [← foundOf_getD (m := rs.length) (fun a ha => lt a ((List.mem_append.mp ha).elim id id)) k, e, ← b.sum, foundOf_getD lt]
      rw [tot_app] at e1
      have e2 : tot (p :: r) k = p.2 * ((p.1.count k : Nat) : Int) + tot r k := by
        unfold tot
        rw [List.map_cons, List.sum_cons]
      have a := tot_nonneg (rows := r) (fun a ha => (b.ways a (List.mem_cons_of_mem _ ha)).2) k
      rw [count_one c.nodup k, if_pos hk, show (((1 : Nat)) : Int) = 1 from rfl, Int.mul_one] at e2
      omega
end U12

set_option Elab.async false
set_option linter.all false
set_option maxRecDepth 100000
set_option maxHeartbeats 4000000
/-! enumerate(zip(a, b)) of two tuples: what a turn draws. The pair that zip made first is held by enumerate's own pair: zip's later turns make others. -/
namespace U12
open PySem
abbrev ZipG (h : Heap) (z TI TO : Addr) (f0 : Value) (fb : Bool) : Prop :=
  h.get? z = some { cls := .type "zip", dict := none, data := .fields #[f0, .bool fb, .bool false, .ref TI, .ref TO], slots := #[] }
/-- zip's own pair: none, or told by its number -/
def Told0 (f0 : Value) : Prop := f0 = .none ∨ ∃ c t, f0 = .int c t
section
variable {prog : Program} {w : World} {A : Around} {E : Value → Shared → Prop} {s : Shared}
theorem zip_free {z TI TO : Addr} {f0 : Value} {fb : Bool} {Q : Bool → Shared → Prop} (hz : ZipG s.heap z TI TO f0 fb) (hf : Told0 f0)
    (h1 : Q true s) (h2 : ∀ h', ZipG h' z TI TO f0 true → Heap.SameBut z s.heap h' → Q false { s with heap := h' }) :
    wpAny (model prog w) A (Builtin.SmallTypes.ownedTupleIsFree (.ref z)) Q E s := by
  unfold Builtin.SmallTypes.ownedTupleIsFree
  rcases hf with rfl | ⟨c, t, rfl⟩
  · exact wpAny_bind (wpAny_field hz rfl (x := .none) rfl (wpAny_pure h1))
  · refine wpAny_bind (wpAny_field hz rfl (x := .int c t) rfl ?_)
    dsimp only
    have al : ∀ {P : Option Obj → Shared → Prop}, P (s.heap.get? c.toNat) s → wpAny (model prog w) A (loadIfAlive c.toNat) P E s := fun h => fun _ _ _ => h
    refine wpAny_bind (al ?_)
    cases hc : s.heap.get? c.toNat with
    | none => exact wpAny_pure h1
    | some oc =>
      simp only [Option.isNone_some, Bool.false_eq_true, if_false]
      refine wpAny_bind (wpAny_field hz rfl (x := .bool fb) rfl ?_)
      cases fb with
      | true =>
        rw [if_neg (by decide)]
        exact wpAny_pure (h2 s.heap hz (Heap.SameBut.refl _ _))
      | false =>
        rw [if_pos (by decide)]
        refine wpAny_bind (wpAny_setField_rec hz (by simp) fun h₁ hz₁ hs₁ => wpAny_pure (h2 h₁ hz₁ hs₁))

/-- one pair is drawn -/
theorem zip_go {z TI TO i1 i2 l1 l2 : Addr} {k1 k2 : Nat} {xs ys : Array Value} {x y a b f0 : Value} {fb : Bool} {Q : Value → Shared → Prop} (D : ZipApart z TI TO i1 i2 l1 l2)
    (hz : ZipG s.heap z TI TO f0 fb) (hf : Told0 f0) (hTI : IsPair s.heap TI (.ref i1) (.ref i2)) (hTO : IsPair s.heap TO a b)
    (h1 : s.heap.IsTupleIter i1 l1 k1) (h2 : s.heap.IsTupleIter i2 l2 k2) (hl1 : s.heap.IsTuple l1 xs) (hl2 : s.heap.IsTuple l2 ys) (hx : xs[k1]? = some x) (hy : ys[k2]? = some y)
    (hQ : ∀ h' f1 f2, ZipG h' z TI TO f1 f2 → Told0 f1 → (∃ a b, IsPair h' TO a b) → h'.IsTupleIter i1 l1 (k1 + 1) → h'.IsTupleIter i2 l2 (k2 + 1) → IsPair h' s.heap.objs.size x y → h'.objs.size = s.heap.objs.size + 1 →
      (∀ c o, c ≠ z → c ≠ TO → c ≠ i1 → c ≠ i2 → s.heap.get? c = some o → h'.get? c = some o) → Q (.ref s.heap.objs.size) { s with heap := h' }) :
    wpAny (model prog w) A (Builtin.«zip.__next__» ⟨[.ref z], []⟩) (fun fin s' => ∃ v, fin = .done (.ret v) ∧ Q v s') E s := by
  show wpAny _ _ (field (.ref z) 2 >>= _) _ _ _
  refine wpAny_bind (wpAny_field hz rfl (x := .bool false) rfl ?_)
  show wpAny _ _ (field (.ref z) 3 >>= _) _ _ _
  refine wpAny_bind (wpAny_field hz rfl (x := .ref TI) rfl ?_)
  refine wpAny_bind (wpAny_seqItems hTI rfl ?_)
  show wpAny _ _ (Builtin.SmallTypes.ownedTupleIsFree (.ref z) >>= _) _ _ _
  refine wpAny_bind (zip_free hz hf ?_ fun h₁ hz₁ hs₁ => ?_)
  · -- its own pair again
    simp only [if_true]
    refine wpAny_bind (wpAny_rule ?_)
    refine wpAny_bind (wpAny_field hz rfl (x := .ref TO) rfl ?_)
    refine wpAny_bind (wpAny_setField_rec hz (by simp) fun h₁ hz₁ hs₁ => ?_)
    replace hz₁ : ZipG h₁ z TI TO .ellipsis fb := hz₁
    refine wpAny_bind ?_
    simp only [List.zipIdx_cons, List.zipIdx_nil, List.forIn_cons, List.forIn_nil]
    refine wpAny_bind (wpAny_bind (wpAny_onRaise ?_))
    show wpAny _ _ (Builtin.SmallTypes.nextOf (.ref i1) >>= _) _ _ _
    refine wpAny_bind (RZ.nextOf_tuple_item (h1.extBut hs₁.extBut D.i1z) (hl1.extBut hs₁.extBut D.l1z) hx fun h₂ h1₂ hs₂ => wpAny_pure ?_)
    have hTO₂ : IsPair h₂ TO a b := hs₂.extBut _ _ D.TOi1 (hs₁.extBut _ _ D.TOz hTO)
    refine wpAny_bind (wpAny_seqItems hTO₂ rfl ?_)
    refine wpAny_bind (wpAny_updateSeq_pair hTO₂ fun h₃ hTO₃ hs₃ => ?_)
    replace hTO₃ : IsPair h₃ TO x b := hTO₃
    refine wpAny_bind (wpAny_letGo (wpAny_pure ?_))
    refine wpAny_bind (wpAny_bind (wpAny_onRaise ?_))
    show wpAny _ _ (Builtin.SmallTypes.nextOf (.ref i2) >>= _) _ _ _
    refine wpAny_bind (RZ.nextOf_tuple_item (((h2.extBut hs₁.extBut D.i2z).extBut hs₂.extBut D.i12.symm).extBut hs₃.extBut D.TOi2.symm)
      (((hl2.extBut hs₁.extBut D.l2z).extBut hs₂.extBut D.l2i1).extBut hs₃.extBut D.l2TO) hy fun h₄ h2₄ hs₄ => wpAny_pure ?_)
    have hTO₄ : IsPair h₄ TO x b := hs₄.extBut _ _ D.TOi2 hTO₃
    refine wpAny_bind (wpAny_seqItems hTO₄ rfl ?_)
    refine wpAny_bind (wpAny_updateSeq_pair hTO₄ fun h₅ hTO₅ hs₅ => ?_)
    replace hTO₅ : IsPair h₅ TO x y := hTO₅
    refine wpAny_bind (wpAny_letGo (wpAny_pure (wpAny_pure ?_)))
    refine wpAny_bind (wpAny_seqItems hTO₅ rfl ?_)
    refine wpAny_bind (wpAny_newTuple ?_)
    have hsz : h₅.objs.size = s.heap.objs.size := by rw [hs₅.1, hs₄.1, hs₃.1, hs₂.1, hs₁.1]
    have hz₅ : ZipG h₅ z TI TO .ellipsis fb := hs₅.extBut _ _ D.TOz.symm (hs₄.extBut _ _ D.i2z.symm (hs₃.extBut _ _ D.TOz.symm (hs₂.extBut _ _ D.i1z.symm hz₁)))
    have hk₅ : ∀ c o, c ≠ z → c ≠ TO → c ≠ i1 → c ≠ i2 → s.heap.get? c = some o → h₅.get? c = some o := fun c o c1 c2 c3 c4 e =>
      hs₅.extBut _ _ c2 (hs₄.extBut _ _ c4 (hs₃.extBut _ _ c2 (hs₂.extBut _ _ c3 (hs₁.extBut _ _ c1 e))))
    have it1 : h₅.IsTupleIter i1 l1 (k1 + 1) := ((h1₂.extBut hs₃.extBut D.TOi1.symm).extBut hs₄.extBut D.i12).extBut hs₅.extBut D.TOi1.symm
    have it2 : h₅.IsTupleIter i2 l2 (k2 + 1) := h2₄.extBut hs₅.extBut D.TOi2.symm
    have hzlt : z < h₅.objs.size := Heap.lt_size hz₅
    show wpAny _ _ (Builtin.SmallTypes.ownedTupleHandOut (.ref z) (.ref h₅.objs.size) >>= _) _ _ _
    refine wpAny_bind ?_
    unfold Builtin.SmallTypes.ownedTupleHandOut
    have hz₆ : ZipG (h₅.push { cls := .type "tuple", data := .seq #[x, y] }) z TI TO .ellipsis fb := Heap.get?_push_of_some _ hz₅
    refine wpAny_bind (wpAny_setField_rec hz₆ (by simp) fun h₇ hz₇ hs₇ => ?_)
    replace hz₇ : ZipG h₇ z TI TO (rawInt h₅.objs.size) fb := hz₇
    refine wpAny_setField_rec hz₇ (by simp) fun h₈ hz₈ hs₈ => ?_
    replace hz₈ : ZipG h₈ z TI TO (rawInt h₅.objs.size) false := hz₈
    have up : ∀ c o, c ≠ z → h₅.get? c = some o → h₈.get? c = some o := fun c o c1 e => hs₈.extBut _ _ c1 (hs₇.extBut _ _ c1 (Heap.get?_push_of_some _ e))
    have hT₈ : IsPair h₈ h₅.objs.size x y := hs₈.extBut _ _ (Nat.ne_of_gt hzlt) (hs₇.extBut _ _ (Nat.ne_of_gt hzlt) (Heap.get?_push_size _ rfl))
    have hz8 : h₈.objs.size = h₅.objs.size + 1 := by rw [hs₈.1, hs₇.1, Heap.size_push]
    rw [hsz] at hz₈ hT₈ hz8
    refine wpAny_pure ⟨_, rfl, ?_⟩
    show Q (.ref h₅.objs.size) _
    rw [hsz]
    exact hQ h₈ _ _ hz₈ (.inr ⟨_, _, rfl⟩) ⟨_, _, up _ _ D.TOz hTO₅⟩ (it1.at fun o e => up _ o D.i1z e) (it2.at fun o e => up _ o D.i2z e) hT₈ hz8 fun c o c1 c2 c3 c4 e => up c o c1 (hk₅ c o c1 c2 c3 c4 e)
  · -- another pair
    simp only [Bool.false_eq_true, if_false]
    have hTI₁ : IsPair h₁ TI (.ref i1) (.ref i2) := hs₁.extBut _ _ D.TIz hTI
    show wpAny _ _ (forIn (#[Value.ref i1, Value.ref i2] : Array Value) _ _ >>= _) _ _ _
    refine wpAny_bind ?_
    rw [← Array.forIn_toList]
    simp only [List.forIn_cons, List.forIn_nil]
    refine wpAny_bind (wpAny_bind (wpAny_holding ?_))
    show wpAny _ _ (Builtin.SmallTypes.nextOf (.ref i1) >>= _) _ _ _
    refine wpAny_bind (RZ.nextOf_tuple_item (h1.extBut hs₁.extBut D.i1z) (hl1.extBut hs₁.extBut D.l1z) hx fun h₂ h1₂ hs₂ => wpAny_pure ?_)
    refine wpAny_pure ?_
    refine wpAny_bind (wpAny_bind (wpAny_holding ?_))
    show wpAny _ _ (Builtin.SmallTypes.nextOf (.ref i2) >>= _) _ _ _
    refine wpAny_bind (RZ.nextOf_tuple_item ((h2.extBut hs₁.extBut D.i2z).extBut hs₂.extBut D.i12.symm) ((hl2.extBut hs₁.extBut D.l2z).extBut hs₂.extBut D.l2i1) hy fun h₃ h2₃ hs₃ => wpAny_pure ?_)
    refine wpAny_pure (wpAny_pure ?_)
    have hsz : h₃.objs.size = s.heap.objs.size := by rw [hs₃.1, hs₂.1, hs₁.1]
    show wpAny _ _ (newTuple [x, y] >>= _) _ _ _
    refine wpAny_bind (wpAny_newTuple ?_)
    have up : ∀ c o, c ≠ z → c ≠ i1 → c ≠ i2 → s.heap.get? c = some o → (h₃.push { cls := .type "tuple", data := .seq #[x, y] }).get? c = some o := fun c o c1 c2 c3 e =>
      Heap.get?_push_of_some _ (hs₃.extBut _ _ c3 (hs₂.extBut _ _ c2 (hs₁.extBut _ _ c1 e)))
    have hT : IsPair (h₃.push { cls := .type "tuple", data := .seq #[x, y] }) h₃.objs.size x y := Heap.get?_push_size _ rfl
    have hz4 : (h₃.push { cls := .type "tuple", data := .seq #[x, y] }).objs.size = h₃.objs.size + 1 := Heap.size_push ..
    rw [hsz] at hT hz4
    refine wpAny_pure ⟨_, rfl, ?_⟩
    show Q (.ref h₃.objs.size) _
    rw [hsz]
    exact hQ _ f0 true (Heap.get?_push_of_some _ (hs₃.extBut _ _ D.i2z.symm (hs₂.extBut _ _ D.i1z.symm hz₁))) hf ⟨_, _, up _ _ D.TOz D.TOi1 D.TOi2 hTO⟩
      ((h1₂.extBut hs₃.extBut D.i12).at fun o e => Heap.get?_push_of_some _ e) (h2₃.at fun o e => Heap.get?_push_of_some _ e) hT hz4 fun c o c1 _ c3 c4 e => up c o c1 c3 c4 e

/-- at the end of the first -/
theorem zip_stop {z TI TO i1 i2 l1 l2 : Addr} {k1 : Nat} {xs : Array Value} {a b f0 : Value} {fb : Bool} {Q : Fin → Shared → Prop} (hh : A.handled = none) (D : ZipApart z TI TO i1 i2 l1 l2)
    (hz : ZipG s.heap z TI TO f0 fb) (hf : Told0 f0) (hTI : IsPair s.heap TI (.ref i1) (.ref i2)) (hTO : IsPair s.heap TO a b)
    (h1 : s.heap.IsTupleIter i1 l1 k1) (hl1 : s.heap.IsTuple l1 xs) (hx : xs[k1]? = none)
    (hE : ∀ h' e, (∀ c o, c ≠ z → c ≠ TO → c ≠ i1 → c ≠ i2 → s.heap.get? c = some o → h'.get? c = some o) → (∃ o, h'.get? e = some o ∧ o.cls = .type "StopIteration") → E (.ref e) { s with heap := h' }) :
    wpAny (model prog w) A (Builtin.«zip.__next__» ⟨[.ref z], []⟩) Q E s := by
  show wpAny _ _ (field (.ref z) 2 >>= _) _ _ _
  refine wpAny_bind (wpAny_field hz rfl (x := .bool false) rfl ?_)
  show wpAny _ _ (field (.ref z) 3 >>= _) _ _ _
  refine wpAny_bind (wpAny_field hz rfl (x := .ref TI) rfl ?_)
  refine wpAny_bind (wpAny_seqItems hTI rfl ?_)
  show wpAny _ _ (Builtin.SmallTypes.ownedTupleIsFree (.ref z) >>= _) _ _ _
  refine wpAny_bind (zip_free hz hf ?_ fun h₁ hz₁ hs₁ => ?_)
  · simp only [if_true]
    refine wpAny_bind (wpAny_rule ?_)
    refine wpAny_bind (wpAny_field hz rfl (x := .ref TO) rfl ?_)
    refine wpAny_bind (wpAny_setField_rec hz (by simp) fun h₁ hz₁ hs₁ => ?_)
    replace hz₁ : ZipG h₁ z TI TO .ellipsis fb := hz₁
    refine wpAny_bind ?_
    simp only [List.zipIdx_cons, List.zipIdx_nil, List.forIn_cons, List.forIn_nil]
    refine wpAny_bind (wpAny_bind (wpAny_onRaise ?_))
    show wpAny _ _ (Builtin.SmallTypes.nextOf (.ref i1) >>= _) _ _ _
    refine wpAny_bind (RZ.nextOf_tuple_end hh (h1.extBut hs₁.extBut D.i1z) (hl1.extBut hs₁.extBut D.l1z) hx fun h₂ e hs₂ he => ?_)
    obtain ⟨oe, hoe, hce⟩ := he
    have hz₂ : ZipG h₂ z TI TO .ellipsis fb := hs₂ _ _ D.i1z.symm hz₁
    have hez : e ≠ z := fun x => by subst x; rw [hz₂] at hoe; cases hoe; simp at hce
    refine wpAny_setField_rec hz₂ (by simp) fun h₃ _ hs₃ => hE h₃ e (fun c o c1 _ c3 _ x => hs₃.extBut _ _ c1 (hs₂ _ _ c3 (hs₁.extBut _ _ c1 x))) ⟨oe, hs₃.extBut _ _ hez hoe, hce⟩
  · simp only [Bool.false_eq_true, if_false]
    show wpAny _ _ (forIn (#[Value.ref i1, Value.ref i2] : Array Value) _ _ >>= _) _ _ _
    refine wpAny_bind ?_
    rw [← Array.forIn_toList]
    simp only [List.forIn_cons, List.forIn_nil]
    refine wpAny_bind (wpAny_bind (wpAny_holding ?_))
    show wpAny _ _ (Builtin.SmallTypes.nextOf (.ref i1) >>= _) _ _ _
    refine wpAny_bind (RZ.nextOf_tuple_end hh (h1.extBut hs₁.extBut D.i1z) (hl1.extBut hs₁.extBut D.l1z) hx fun h₂ e hs₂ he => ?_)
    exact hE h₂ e (fun c o c1 _ c3 _ x => hs₂ _ _ c3 (hs₁.extBut _ _ c1 x)) he
end
end U12

set_option Elab.async false
set_option linter.all false
set_option maxRecDepth 100000
set_option maxHeartbeats 4000000
/-! enumerate over an iterator told by what it draws; made over a tuple, over a zip. -/
namespace U12
open PySem
open AutoSeq1 (wpAny_loadPart')
section
variable {prog : Program} {w : World} {A : Around} {E : Value → Shared → Prop} {s : Shared}
theorem enum_go {e it : Addr} {i : Int} {old : Value} {C : Value → Heap → Prop} {Q : Value → Shared → Prop} (he : IsEnum s.heap e it i old)
    (hin : ∀ (R : Value → Shared → Prop) (E : Value → Shared → Prop), (∀ x h1, C x h1 → R x { s with heap := h1 }) → wpAny (model prog w) A (Builtin.SmallTypes.nextOf (.ref it)) R E s)
    (hC : ∀ x h1, C x h1 → IsEnum h1 e it i old)
    (hQ : ∀ x h1 h' tk, C x h1 → IsEnumOut h' e it (i + 1) x h1.objs.size → h'.get? h1.objs.size = some { cls := .type "tuple", data := .seq #[.int i tk, x] } → h'.objs.size = h1.objs.size + 1 →
      (∀ b o, b ≠ e → h1.get? b = some o → h'.get? b = some o) → Q (.ref h1.objs.size) { s with heap := h', toks := tk + 1 }) :
    wpAny (model prog w) A (Builtin.«enumerate.__next__» ⟨[.ref e], []⟩) (fun fin s' => ∃ v, fin = .done (.ret v) ∧ Q v s') E s := by
  obtain ⟨hp, g, d, tk, os⟩ := s
  show wpAny _ _ (field (.ref e) 2 >>= _) _ _ _
  refine wpAny_bind (wpAny_field he rfl (x := .ref it) rfl ?_)
  refine wpAny_bind (hin _ _ fun x h₁ hc => ?_)
  have he₁ : IsEnum h₁ e it i old := hC x h₁ hc
  show wpAny _ _ (field (.ref e) 3 >>= _) _ _ ⟨h₁, g, d, tk, os⟩
  refine wpAny_bind (wpAny_field he₁ rfl (x := rawInt i) rfl ?_)
  show wpAny _ _ (field (.ref e) 4 >>= _) _ _ ⟨h₁, g, d, tk, os⟩
  refine wpAny_bind (wpAny_field he₁ rfl (x := .none) rfl ?_)
  show wpAny _ _ (mkInt i >>= _) _ _ ⟨h₁, g, d, tk, os⟩
  refine wpAny_bind (wpAny_mkInt ?_)
  show wpAny _ _ (setField (.ref e) 3 (rawInt (i + 1)) >>= _) _ _ ⟨h₁, g, d, tk + 1, os⟩
  refine wpAny_bind (wpAny_setField_rec he₁ (by simp) fun h₂ he₂ hs₂ => ?_)
  replace hs₂ : Heap.SameBut e h₁ h₂ := hs₂
  replace he₂ : IsEnum h₂ e it (i + 1) old := he₂
  show wpAny _ _ (setField (.ref e) 4 .none >>= _) _ _ ⟨h₂, g, d, tk + 1, os⟩
  refine wpAny_bind (wpAny_setField_rec he₂ (by simp) fun h₃ he₃ hs₃ => ?_)
  replace hs₃ : Heap.SameBut e h₂ h₃ := hs₃
  replace he₃ : IsEnum h₃ e it (i + 1) old := he₃
  show wpAny _ _ (newTuple [.int i tk, x] >>= _) _ _ ⟨h₃, g, d, tk + 1, os⟩
  refine wpAny_bind (wpAny_newTuple ?_)
  have hsz : h₃.objs.size = h₁.objs.size := by rw [hs₃.1, hs₂.1]
  have hel : e < h₃.objs.size := Heap.lt_size he₃
  have up : ∀ b o, b ≠ e → h₁.get? b = some o → (h₃.push { cls := .type "tuple", data := .seq #[.int i tk, x] }).get? b = some o := fun b o hb q => Heap.get?_push_of_some _ (hs₃.extBut b o hb (hs₂.extBut b o hb q))
  have he₄ : IsEnum (h₃.push { cls := .type "tuple", data := .seq #[.int i tk, x] }) e it (i + 1) old := Heap.get?_push_of_some _ he₃
  have hT : (h₃.push { cls := .type "tuple", data := .seq #[.int i tk, x] }).get? h₃.objs.size = some { cls := .type "tuple", data := .seq #[.int i tk, x] } := Heap.get?_push_size _ rfl
  have hz : (h₃.push { cls := .type "tuple", data := .seq #[.int i tk, x] }).objs.size = h₃.objs.size + 1 := Heap.size_push ..
  show wpAny _ _ (Builtin.SmallTypes.ownedTupleIsFree (.ref e) >>= _) _ _ ⟨h₃.push { cls := .type "tuple", data := .seq #[.int i tk, x] }, g, d, tk + 1, os⟩
  generalize hh₄ : h₃.push { cls := .type "tuple", data := .seq #[.int i tk, x] } = h₄ at up he₄ hT hz
  rw [hsz] at hT hz hel
  rw [hsz]
  refine wpAny_bind ?_
  unfold Builtin.SmallTypes.ownedTupleIsFree
  refine wpAny_bind (wpAny_field he₄ rfl (x := .none) rfl (wpAny_pure ?_))
  simp only [if_true]
  refine wpAny_bind (wpAny_rule ?_)
  refine wpAny_bind (wpAny_field he₄ rfl (x := old) rfl ?_)
  refine wpAny_bind (wpAny_setField_rec he₄ (by simp) fun h₅ he₅ hs₅ => ?_)
  replace hs₅ : Heap.SameBut e h₄ h₅ := hs₅
  replace he₅ : IsEnum h₅ e it (i + 1) x := he₅
  show wpAny _ _ (Builtin.SmallTypes.ownedTupleHandOut (.ref e) (.ref h₁.objs.size) >>= _) _ _ ⟨h₅, g, d, tk + 1, os⟩
  refine wpAny_bind ?_
  unfold Builtin.SmallTypes.ownedTupleHandOut
  refine wpAny_bind (wpAny_setField_rec he₅ (by simp) fun h₆ he₆ hs₆ => ?_)
  replace hs₆ : Heap.SameBut e h₅ h₆ := hs₆
  replace he₆ : IsEnumOut h₆ e it (i + 1) x h₁.objs.size := he₆
  refine wpAny_setField_rec he₆ (by simp) fun h₇ he₇ hs₇ => ?_
  replace hs₇ : Heap.SameBut e h₆ h₇ := hs₇
  replace he₇ : IsEnumOut h₇ e it (i + 1) x h₁.objs.size := he₇
  have on : ∀ b o, b ≠ e → h₄.get? b = some o → h₇.get? b = some o := fun b o hb q => hs₇.extBut _ _ hb (hs₆.extBut _ _ hb (hs₅.extBut _ _ hb q))
  refine wpAny_bind (wpAny_letGo (wpAny_pure ⟨_, rfl, hQ x h₁ h₇ tk hc he₇ (on _ _ (Nat.ne_of_gt hel) hT) ?_ fun b o hb q => on b o hb (up b o hb q)⟩))
  rw [hs₇.1, hs₆.1, hs₅.1, hz]
theorem enum_next {e it : Addr} {i : Int} {old : Value} {C : Value → Heap → Prop} {Q : Option Value → Shared → Prop} (he : IsEnum s.heap e it i old)
    (hin : ∀ (R : Value → Shared → Prop) (E : Value → Shared → Prop), (∀ x h1, C x h1 → R x { s with heap := h1 }) → wpAny (model prog w) A.in1 (Builtin.SmallTypes.nextOf (.ref it)) R E s)
    (hC : ∀ x h1, C x h1 → IsEnum h1 e it i old)
    (hQ : ∀ x h1 h' tk, C x h1 → IsEnumOut h' e it (i + 1) x h1.objs.size → h'.get? h1.objs.size = some { cls := .type "tuple", data := .seq #[.int i tk, x] } → h'.objs.size = h1.objs.size + 1 →
      (∀ b o, b ≠ e → h1.get? b = some o → h'.get? b = some o) → Q (some (.ref h1.objs.size)) { s with heap := h', toks := tk + 1 }) :
    wpAny (model prog w) A (pyNext (.ref e)) Q E s := by
  have hT : s.TypeIs (.ref e) "enumerate" := ⟨_, he, rfl⟩
  unfold pyNext
  exact wpAny_bind (wpAny_attempt (wpAny_callSpecial?_slot (name := Str.ofString "__next__") hT F.slot_enumerate_next
    (wpAny_call_entry F.slot_enumerate_next hT F.entry_enumerate_next
      (enum_go he hin hC fun x h1 h' tk a b c d k => wpAny_pure (hQ x h1 h' tk a b c d k)) (F.args_enumerate_next_1 _))))
theorem enum_stop {e it : Addr} {i : Int} {old : Value} {C : Heap → Prop} {Q : Option Value → Shared → Prop} (he : IsEnum s.heap e it i old)
    (hin : ∀ (R : Value → Shared → Prop) (E : Value → Shared → Prop), (∀ h1 x, C h1 → (∃ o, h1.get? x = some o ∧ o.cls = .type "StopIteration") → E (.ref x) { s with heap := h1 }) → wpAny (model prog w) A.in1 (Builtin.SmallTypes.nextOf (.ref it)) R E s)
    (hQ : ∀ h1, C h1 → Q none { s with heap := h1 }) : wpAny (model prog w) A (pyNext (.ref e)) Q E s := by
  have hT : s.TypeIs (.ref e) "enumerate" := ⟨_, he, rfl⟩
  unfold pyNext
  refine wpAny_bind (wpAny_attempt (wpAny_callSpecial?_slot (name := Str.ofString "__next__") hT F.slot_enumerate_next
    (wpAny_call_entry F.slot_enumerate_next hT F.entry_enumerate_next ?_ (F.args_enumerate_next_1 _))))
  show wpAny _ _ (field (.ref e) 2 >>= _) _ _ _
  refine wpAny_bind (wpAny_field he rfl (x := .ref it) rfl ?_)
  refine wpAny_bind (hin _ _ fun h1 x hc hx => ?_)
  obtain ⟨o, ho, hcl⟩ := hx
  refine wpAny_bind (wpAny_isInstance (T := "StopIteration") (b := true) ⟨o, ho, hcl⟩ isSubtype_stop ?_)
  exact wpAny_pure (hQ _ hc)
/-- the next pair of a zip, as another iterator asks for it -/
theorem zip_nextOf {z TI TO i1 i2 l1 l2 : Addr} {k1 k2 : Nat} {xs ys : Array Value} {x y a b f0 : Value} {fb : Bool} {Q : Value → Shared → Prop} (D : ZipApart z TI TO i1 i2 l1 l2)
    (hz : ZipG s.heap z TI TO f0 fb) (hf : Told0 f0) (hTI : IsPair s.heap TI (.ref i1) (.ref i2)) (hTO : IsPair s.heap TO a b)
    (h1 : s.heap.IsTupleIter i1 l1 k1) (h2 : s.heap.IsTupleIter i2 l2 k2) (hl1 : s.heap.IsTuple l1 xs) (hl2 : s.heap.IsTuple l2 ys) (hx : xs[k1]? = some x) (hy : ys[k2]? = some y)
    (hQ : ∀ h' f1 f2, ZipG h' z TI TO f1 f2 → Told0 f1 → (∃ a b, IsPair h' TO a b) → h'.IsTupleIter i1 l1 (k1 + 1) → h'.IsTupleIter i2 l2 (k2 + 1) → IsPair h' s.heap.objs.size x y → h'.objs.size = s.heap.objs.size + 1 →
      (∀ c o, c ≠ z → c ≠ TO → c ≠ i1 → c ≠ i2 → s.heap.get? c = some o → h'.get? c = some o) → Q (.ref s.heap.objs.size) { s with heap := h' }) :
    wpAny (model prog w) A (Builtin.SmallTypes.nextOf (.ref z)) Q E s := by
  have hT : s.TypeIs (.ref z) "zip" := ⟨_, hz, rfl⟩
  unfold Builtin.SmallTypes.nextOf
  exact wpAny_bind (wpAny_callSpecial?_slot (name := Str.ofString "__next__") hT F.slot_zip_next
    (wpAny_call_entry F.slot_zip_next hT F.entry_zip_next
      (zip_go D hz hf hTI hTO h1 h2 hl1 hl2 hx hy fun h' f1 f2 a1 a2 a3 a4 a5 a6 a7 a8 => wpAny_pure (hQ h' f1 f2 a1 a2 a3 a4 a5 a6 a7 a8)) (F.args_zip_next_1 _)))
theorem zip_nextEnd {z TI TO i1 i2 l1 l2 : Addr} {k1 : Nat} {xs : Array Value} {a b f0 : Value} {fb : Bool} {Q : Value → Shared → Prop} (hh : A.handled = none) (D : ZipApart z TI TO i1 i2 l1 l2)
    (hz : ZipG s.heap z TI TO f0 fb) (hf : Told0 f0) (hTI : IsPair s.heap TI (.ref i1) (.ref i2)) (hTO : IsPair s.heap TO a b)
    (h1 : s.heap.IsTupleIter i1 l1 k1) (hl1 : s.heap.IsTuple l1 xs) (hx : xs[k1]? = none)
    (hE : ∀ h' e, (∀ c o, c ≠ z → c ≠ TO → c ≠ i1 → c ≠ i2 → s.heap.get? c = some o → h'.get? c = some o) → (∃ o, h'.get? e = some o ∧ o.cls = .type "StopIteration") → E (.ref e) { s with heap := h' }) :
    wpAny (model prog w) A (Builtin.SmallTypes.nextOf (.ref z)) Q E s := by
  have hT : s.TypeIs (.ref z) "zip" := ⟨_, hz, rfl⟩
  unfold Builtin.SmallTypes.nextOf
  exact wpAny_bind (wpAny_callSpecial?_slot (name := Str.ofString "__next__") hT F.slot_zip_next
    (wpAny_call_entry F.slot_zip_next hT F.entry_zip_next (zip_stop (A := A.in1) hh D hz hf hTI hTO h1 hl1 hx hE) (F.args_zip_next_1 _)))
/-- enumerate(t) -/
theorem meets_enumT (l : Addr) (items : Array Value) :
    Meets (Builtin.«enumerate.__new__» ⟨[.type "enumerate", .ref l], []⟩) (fun _ R s => s.heap.IsTuple l items ∧
      R (.ok (.ret (.ref (s.heap.push { cls := .type "tuple_iterator", data := .fields #[.ref l, .int 0 0] }).objs.size)))
        { s with heap := (s.heap.push { cls := .type "tuple_iterator", data := .fields #[.ref l, .int 0 0] }).push { cls := .type "enumerate", data := .fields #[.none, .bool false, .ref s.heap.objs.size, rawInt 0, .none, .none] } }) :=
  .of_wp fun prog w A R s h => by
    obtain ⟨hp, g, d, tk, os⟩ := s
    obtain ⟨hl, h⟩ := h
    have hsub := sub_enumerate
    obtain ⟨ol, hol, hcl, n, hdl⟩ := id hl
    wp_walk using wpAny_loadPart' hol
    refine wpAny_stack_any fun st => wpAny_pure ?_
    split
    · rename_i c _ _ _ _ _
      cases (c == Value.type "enumerate")
      · wp_walk using wpAny_loadPart' hol, wpAny_pyIter_tuple hl
        exact ⟨_, rfl, h⟩
      · wp_walk using wpAny_loadPart' hol, wpAny_pyIter_tuple hl
        exact ⟨_, rfl, h⟩
    · wp_walk using wpAny_loadPart' hol, wpAny_pyIter_tuple hl
      exact ⟨_, rfl, h⟩
theorem call_enumT {l : Addr} {items : Array Value} {Q : Value → Shared → Prop} (hL : s.heap.IsTuple l items)
    (h : ∀ h', IsEnum h' (s.heap.objs.size + 1) s.heap.objs.size 0 .none → h'.IsTupleIter s.heap.objs.size l 0 →
      (∀ b o, s.heap.get? b = some o → h'.get? b = some o) → Q (.ref (s.heap.objs.size + 1)) { s with heap := h' }) :
    wpAny (model prog w) A (call (.type "enumerate") [.ref l]) Q E s := by
  refine callType_new F.called_enumerate (by decide) (F.typeCall_enumerate_1 _) (F.newCall_enumerate_1 _) (fun obj => F.args_object_init_2 obj _) F.entry_enumerate_new
    (meets_enumT l items) ⟨hL, ?_⟩
  have hz : (s.heap.push { cls := .type "tuple_iterator", data := .fields #[.ref l, .int 0 0] }).objs.size = s.heap.objs.size + 1 := Heap.size_push ..
  show _ ∧ _
  rw [hz]
  have he : IsEnum ((s.heap.push { cls := .type "tuple_iterator", data := .fields #[.ref l, .int 0 0] }).push
      { cls := .type "enumerate", data := .fields #[.none, .bool false, .ref s.heap.objs.size, rawInt 0, .none, .none] }) (s.heap.objs.size + 1) s.heap.objs.size 0 .none := by
    have q := Heap.get?_push_size (s.heap.push { cls := .type "tuple_iterator", data := .fields #[.ref l, .int 0 0] })
      (o := { cls := .type "enumerate", data := .fields #[.none, .bool false, .ref s.heap.objs.size, rawInt 0, .none, .none] }) rfl
    rw [hz] at q
    exact q
  exact ⟨⟨_, he, rfl⟩, h _ he ⟨_, Heap.get?_push_of_some _ (Heap.get?_push_size _ rfl), rfl, rfl⟩ fun b o x => Heap.get?_push_of_some _ (Heap.get?_push_of_some _ x)⟩
/-- enumerate(zip(..)) -/
theorem meets_enumZ (z TI TO : Addr) (f0 : Value) :
    Meets (Builtin.«enumerate.__new__» ⟨[.type "enumerate", .ref z], []⟩) (fun _ R s => IsZip s.heap z TI TO f0 ∧
      R (.ok (.ret (.ref s.heap.objs.size)))
        { s with heap := s.heap.push { cls := .type "enumerate", data := .fields #[.none, .bool false, .ref z, rawInt 0, .none, .none] } }) :=
  .of_wp fun prog w A R s h => by
    obtain ⟨hp, g, d, tk, os⟩ := s
    obtain ⟨hl, h⟩ := h
    have hsub := sub_enumerate
    have q1 : ∀ {A' : Around} {E : Value → Shared → Prop} {Q : Value → Shared → Prop}, Q (.ref z) ⟨hp, g, d, tk, os⟩ → wpAny (model prog w) A' (pyIter (.ref z)) Q E ⟨hp, g, d, tk, os⟩ := fun q => wpAny_pyIter_zip hl q
    wp_walk using wpAny_loadPart' hl
    refine wpAny_stack_any fun st => wpAny_pure ?_
    split
    · rename_i c _ _ _ _ _
      cases (c == Value.type "enumerate")
      · wp_walk using wpAny_loadPart' hl, q1
        exact ⟨_, rfl, h⟩
      · wp_walk using wpAny_loadPart' hl, q1
        exact ⟨_, rfl, h⟩
    · wp_walk using wpAny_loadPart' hl, q1
      exact ⟨_, rfl, h⟩
theorem call_enumZ {z TI TO : Addr} {f0 : Value} {Q : Value → Shared → Prop} (hL : IsZip s.heap z TI TO f0)
    (h : ∀ h', IsEnum h' s.heap.objs.size z 0 .none → (∀ b o, s.heap.get? b = some o → h'.get? b = some o) → Q (.ref s.heap.objs.size) { s with heap := h' }) :
    wpAny (model prog w) A (call (.type "enumerate") [.ref z]) Q E s := by
  refine callType_new F.called_enumerate (by decide) (F.typeCall_enumerate_1 _) (F.newCall_enumerate_1 _) (fun obj => F.args_object_init_2 obj _) F.entry_enumerate_new
    (meets_enumZ z TI TO f0) ⟨hL, ?_⟩
  have he : IsEnum (s.heap.push { cls := .type "enumerate", data := .fields #[.none, .bool false, .ref z, rawInt 0, .none, .none] }) s.heap.objs.size z 0 .none := Heap.get?_push_size _ rfl
  exact ⟨⟨_, he, rfl⟩, h _ he fun b o x => Heap.get?_push_of_some _ x⟩
end
end U12

set_option Elab.async false
set_option linter.all false
set_option maxRecDepth 100000
set_option maxHeartbeats 4000000
/-! The walks: enumerate(t), enumerate(zip(t, u)), t and u tuples. -/
namespace U12
open PySem PySem.Spec PyProof.Rows L2
/-- the tuple at a, each item in a new pair with its number -/
def ItE (K : PySem.W.Frag) (a : Addr) : It :=
  ⟨fun i H => ∃ (xs : List V) (x : V), SqT K H a xs ∧ xs[i]? = some x, fun i H v H' => ∃ T x, v = .ref T ∧ H T = none ∧ H' = upd H T (.tup [.int (i : Nat), x]) ∧ ∀ xs, SqT K H a xs → xs[i]? = some x, fun i H => ∃ xs : List V, SqT K H a xs ∧ xs.length ≤ i⟩
theorem two_of {b e it : Addr} (h : b ∈ [e, it]) : b = e ∨ b = it := by simpa using h
theorem turn_E {P : Program} {w : World} {K : PySem.W.Frag} {elts : List Expr} {kk : Nat} {tpos : Pos} (a e it : Addr) :
    Turn P w K (.Tuple elts kk tpos) (ItE K a) [e, it] e (fun i h => (∃ old, IsEnum h e it ((i : Nat) : Int) old) ∧ h.IsTupleIter it a i ∧ e ≠ it) where
  mem := by simp
  obj := fun i h st b hb => by
    obtain ⟨⟨old, he⟩, ⟨o, ho, hc, hd⟩, _⟩ := st
    rcases two_of hb with z | z
    · rw [z]
      exact ⟨_, he, fun v q => nomatch q⟩
    · rw [z]
      exact ⟨o, ho, fun v q => by rw [hd] at q; cases q⟩
  keep := fun i h h' st k => let ⟨⟨old, he⟩, hi, hne⟩ := st; ⟨⟨old, k e (by simp) _ he⟩, hi.at fun o q => k it (by simp) o q, hne⟩
  item := by
    intro X hP hw hK hc i pins s σ H E I hf st hg
    subst hP hw hK
    obtain ⟨⟨old, he⟩, hit, hne⟩ := st
    obtain ⟨xs, y, hq, hx⟩ := hg
    obtain ⟨its, rv, p, hz⟩ := I.tuple hq
    obtain ⟨u, hu, ru⟩ := rv.get hx
    have hel : e < s.heap.objs.size := Heap.lt_size he
    have hil : it < s.heap.objs.size := by
      obtain ⟨_, q, _⟩ := hit
      exact Heap.lt_size q
    refine enum_next (C := fun x h1 => x = u ∧ h1.IsTupleIter it a (i + 1) ∧ Heap.SameBut it s.heap h1) he (fun R E hR => ?_) (fun x h1 hC => (hC.2.2.2 e hne).trans he) fun x h1 h' tk hC ho hT hsz hk => ?_
    · exact RZ.nextOf_tuple_item hit (show s.heap.IsTuple a its.toArray from p) (x := u) (by simpa using hu) fun h1 hit1 sb => hR u h1 ⟨rfl, hit1, sb⟩
    · obtain ⟨rfl, hit1, sb⟩ := hC
      have h1s : h1.objs.size = s.heap.objs.size := sb.1
      rw [h1s] at ho hT hsz ⊢
      refine ⟨_, rfl, wpAny_letOwnedTupleGo_enum (s := { s with heap := h', toks := tk + 1 }) ho fun h'' he' sb2 => ?_⟩
      have hT2 : h''.get? s.heap.objs.size = some { cls := .type "tuple", data := .seq #[.int i tk, x] } := (sb2.2 _ (Nat.ne_of_gt hel)).trans hT
      have new : ObjOk X.prog X.w (upd H s.heap.objs.size (.tup [.int (i : Nat), y])) h'' s.heap.objs.size (.tup [.int (i : Nat), y]) :=
        ⟨by show 2 ≤ sizeLine; decide, [.int i tk, x], .cons ⟨_, rfl⟩ (.cons ru .nil), ⟨_, hT2, rfl, _, rfl⟩⟩
      have I1 : Inv X pins σ (upd H s.heap.objs.size (.tup [.int (i : Nat), y])) { s with heap := h'', toks := tk + 1 } :=
        I.turnedNew (ch := [e, it]) (fun b ob hb q => (sb2.2 b (fun z => hb (by simp [z]))).trans (hk b ob (fun z => hb (by simp [z])) ((sb.2 b (fun z => hb (by simp [z]))).trans q))) hf (Nat.le_refl _) new
      refine ⟨.ref s.heap.objs.size, _, I1, rfl, ⟨_, y, rfl, I.hok.fresh (Nat.le_refl _), rfl, fun ys hy => by rw [I.tuple_inj hy hq]; exact hx⟩, ⟨⟨x, ?_⟩, (hit1.at fun o q => hk it o (Ne.symm hne) q).at fun o q => (sb2.2 it (Ne.symm hne)).trans q, hne⟩, fun b hb => ?_⟩
      · have e1 : ((i + 1 : Nat) : Int) = (i : Int) + 1 := by omega
        rw [e1]
        exact he'
      · have hb2 : b < s.heap.objs.size := by
          rcases two_of hb with z | z
          · rw [z]; exact hel
          · rw [z]; exact hil
        rw [upd_ne (Nat.ne_of_lt hb2)]
        exact (hf b hb).1
  done := by
    intro X hP hw hK hc i pins s σ H E I hf st hg
    subst hP hw hK
    obtain ⟨⟨old, he⟩, hit, hne⟩ := st
    obtain ⟨xs, hq, hx⟩ := hg
    obtain ⟨its, rv, p, hz⟩ := I.tuple hq
    obtain ⟨f0, f1, f2, f3, f4, f5⟩ := hf it (by simp)
    have hl := rv.length
    refine enum_stop (C := fun h1 => Heap.ExtBut it s.heap h1) he (fun R E hE => ?_) fun h1 hC => ⟨rfl, I.turned (t' := s.toks) (fun b o hb q => hC b o hb q) f0 f1 f3 f4 f5⟩
    exact RZ.nextOf_tuple_end (A := X.A.in1) (I.ok.hd hc) hit (show s.heap.IsTuple a its.toArray from p) (by simp; omega) fun h1 x hk hx => hE h1 x hk hx
  self := fun A i s Q E st h => let ⟨⟨_, he⟩, _⟩ := st; wpAny_pyIter_enum he h
def iE (K : PySem.W.Frag) (ta : TA) : TI := fun σ H R => ta σ H fun vs H1 => ∃ a xs, vs = [.ref a] ∧ SqT K H1 a xs ∧ R (ItE K a) H1
/-- for i, x in enumerate(t) -/
theorem pi_E {X : Cx} {e : Expr} {ta : TA} {p pos tpos : Pos} {elts : List Expr} {kk : Nat} (hg : Gl X "enumerate") (hm : X.mg "enumerate" = none) (ha : PA X [e] ta) (hs : starEach [e] X.env = [(false, eval e X.env)] := by rfl) :
    PI X (.Tuple elts kk tpos) (.Call (.Name "enumerate" p) [e] [] pos) (iE X.K ta) := by
  refine ⟨fun pins s σ H R I h => ?_⟩
  refine Call_ (ld_blt I hg hm boot_enumerate (PyProof.Rows.callWith_type1 (thn (ha.run pos pins s σ H _ I h) fun us s1 ⟨vs, H1, I1, r1, q1⟩ => ?_) hs rfl))
  obtain ⟨a, xs, ex, hq, q⟩ := q1
  subst ex
  cases r1 with
  | cons r rr =>
    cases rr
    cases r
    obtain ⟨its, rv, p', hz⟩ := I1.tuple hq
    refine call_enumT (show s1.heap.IsTuple a its.toArray from p') fun h' he hit hk => wpAny_pyIter_enum he ?_
    have I2 : Inv X pins σ H1 { s1 with heap := h' } := I1.kept (t' := s1.toks) hk
    refine ⟨s1.heap.objs.size + 1, [s1.heap.objs.size + 1, s1.heap.objs.size], _, _, H1, rfl, I2, turn_E a (s1.heap.objs.size + 1) s1.heap.objs.size, ⟨⟨.none, he⟩, hit, Nat.succ_ne_self _⟩, fun b hb => ?_, q⟩
    have hle : s1.heap.objs.size ≤ b := by
      rcases two_of hb with z | z
      · rw [z]; exact Nat.le_add_right _ _
      · rw [z]; exact Nat.le_refl _
    exact I1.fpOk hle (I1.hok.fresh hle)
theorem walk_E {K : PySem.W.Frag} {a : Addr} {xs : List V} : Walk (ItE K a) xs.length (fun H => SqT K H a xs) (YPair (fun i => some (.int (i : Nat))) (fun i => xs[i]?)) := by
  refine ⟨fun i _ hi q => ⟨xs, xs[i], q, by simp [hi]⟩, fun _ q => ⟨xs, q, Nat.le_refl _⟩, fun i H v H' _ q y => ?_⟩
  obtain ⟨T, x, h1, h2, h3, h4⟩ := y
  exact ⟨T, .int (i : Nat), x, h1, h2, h3, rfl, h4 xs q⟩

/-- the tuples at a and b, the items in new pairs, these with their numbers in new pairs -/
def ItEZ (K : PySem.W.Frag) (a b : Addr) : It :=
  ⟨fun i H => ∃ (xs ys : List V) (x y : V), SqT K H a xs ∧ SqT K H b ys ∧ xs[i]? = some x ∧ ys[i]? = some y,
    fun i H v H' => ∃ P T x y, v = .ref T ∧ H P = none ∧ upd H P (.tup [x, y]) T = none ∧ H' = upd (upd H P (.tup [x, y])) T (.tup [.int (i : Nat), .ref P]) ∧ (∀ xs, SqT K H a xs → xs[i]? = some x) ∧ ∀ ys, SqT K H b ys → ys[i]? = some y,
    fun i H => ∃ xs : List V, SqT K H a xs ∧ xs.length ≤ i⟩
theorem six_of {c e z TI TO i1 i2 : Addr} (h : c ∈ [e, z, TI, TO, i1, i2]) : c = e ∨ c = z ∨ c = TI ∨ c = TO ∨ c = i1 ∨ c = i2 := by simpa using h
def TnEZ (e z TI TO i1 i2 a b : Addr) (i : Nat) (h : Heap) : Prop :=
  (∃ old, IsEnum h e z ((i : Nat) : Int) old) ∧ (∃ f0 fb, ZipG h z TI TO f0 fb ∧ Told0 f0) ∧ IsPair h TI (.ref i1) (.ref i2) ∧ (∃ x y, IsPair h TO x y) ∧ h.IsTupleIter i1 a i ∧ h.IsTupleIter i2 b i
theorem TnEZ.lt {e z TI TO i1 i2 a b : Addr} {i : Nat} {h : Heap} (st : TnEZ e z TI TO i1 i2 a b i h) {c : Addr} (hc : c ∈ [e, z, TI, TO, i1, i2]) : c < h.objs.size := by
  obtain ⟨⟨old, he⟩, ⟨f0, fb, hz, _⟩, hTI, ⟨x, y, hTO⟩, ⟨o1, e1, _⟩, ⟨o2, e2, _⟩⟩ := st
  rcases six_of hc with q | q | q | q | q | q
  · rw [q]; exact Heap.lt_size he
  · rw [q]; exact Heap.lt_size hz
  · rw [q]; exact Heap.lt_size hTI
  · rw [q]; exact Heap.lt_size hTO
  · rw [q]; exact Heap.lt_size e1
  · rw [q]; exact Heap.lt_size e2
theorem TnEZ.keep {e z TI TO i1 i2 a b : Addr} {i : Nat} {h h' : Heap} (st : TnEZ e z TI TO i1 i2 a b i h) (k : ∀ c ∈ [e, z, TI, TO, i1, i2], ∀ o, h.get? c = some o → h'.get? c = some o) : TnEZ e z TI TO i1 i2 a b i h' := by
  obtain ⟨⟨old, he⟩, ⟨f0, fb, hz, hf⟩, hTI, ⟨x, y, hTO⟩, h1, h2⟩ := st
  exact ⟨⟨old, k e (by simp) _ he⟩, ⟨f0, fb, k z (by simp) _ hz, hf⟩, k TI (by simp) _ hTI, ⟨x, y, k TO (by simp) _ hTO⟩, h1.at fun o q => k i1 (by simp) o q, h2.at fun o q => k i2 (by simp) o q⟩
theorem turn_EZ {P : Program} {w : World} {K : PySem.W.Frag} {elts : List Expr} {kk : Nat} {tpos : Pos} {a b e z TI TO i1 i2 : Addr} (D : ZipApart z TI TO i1 i2 a b) (ne : e ∉ [z, TI, TO, i1, i2]) :
    Turn P w K (.Tuple elts kk tpos) (ItEZ K a b) [e, z, TI, TO, i1, i2] e (TnEZ e z TI TO i1 i2 a b) where
  mem := by simp
  obj := fun i h st c hc => by
    obtain ⟨⟨old, he⟩, ⟨f0, fb, hz, _⟩, hTI, ⟨x, y, hTO⟩, ⟨o1, e1, _, d1⟩, ⟨o2, e2, _, d2⟩⟩ := st
    rcases six_of hc with q | q | q | q | q | q
    · rw [q]; exact ⟨_, he, fun v q => nomatch q⟩
    · rw [q]; exact ⟨_, hz, fun v q => nomatch q⟩
    · rw [q]; exact ⟨_, hTI, fun v q => nomatch q⟩
    · rw [q]; exact ⟨_, hTO, fun v q => nomatch q⟩
    · rw [q]; exact ⟨o1, e1, fun v q => by rw [d1] at q; cases q⟩
    · rw [q]; exact ⟨o2, e2, fun v q => by rw [d2] at q; cases q⟩
  keep := fun i h h' st k => st.keep k
  item := by
    intro X hP hw hK hc i pins s σ H E I hf st hg
    subst hP hw hK
    have lt := fun c (h : c ∈ [e, z, TI, TO, i1, i2]) => st.lt h
    obtain ⟨⟨old, he⟩, ⟨f0, fb, hz, hf0⟩, hTI, ⟨x0, y0, hTO⟩, h1, h2⟩ := st
    obtain ⟨xs, ys, x, y, hqx, hqy, hx, hy⟩ := hg
    obtain ⟨its, rv, p, _⟩ := I.tuple hqx
    obtain ⟨its2, rv2, p2, _⟩ := I.tuple hqy
    obtain ⟨u, hu, ru⟩ := rv.get hx
    obtain ⟨u2, hu2, ru2⟩ := rv2.get hy
    have nee : e ≠ z ∧ e ≠ TI ∧ e ≠ TO ∧ e ≠ i1 ∧ e ≠ i2 := by simpa using ne
    obtain ⟨n1, n2, n3, n4, n5⟩ := nee
    have hel : e < s.heap.objs.size := lt e (by simp)
    refine enum_next (C := fun v h1 => v = .ref s.heap.objs.size ∧ (∃ f1 f2, ZipG h1 z TI TO f1 f2 ∧ Told0 f1) ∧ (∃ a b, IsPair h1 TO a b) ∧ h1.IsTupleIter i1 a (i + 1) ∧ h1.IsTupleIter i2 b (i + 1) ∧ IsPair h1 s.heap.objs.size u u2 ∧ h1.objs.size = s.heap.objs.size + 1 ∧
      ∀ c o, c ≠ z → c ≠ TO → c ≠ i1 → c ≠ i2 → s.heap.get? c = some o → h1.get? c = some o) he (fun R E hR => ?_) (fun v h1 hC => hC.2.2.2.2.2.2.2 e _ n1 n3 n4 n5 he) fun v g1 h' tk hC ho hT hsz hk => ?_
    · exact zip_nextOf D hz hf0 hTI hTO h1 h2 (show s.heap.IsTuple a its.toArray from p) (show s.heap.IsTuple b its2.toArray from p2) (x := u) (y := u2) (by simpa using hu) (by simpa using hu2)
        fun h' f1 f2 a1 a2 a3 a4 a5 a6 a7 a8 => hR _ h' ⟨rfl, ⟨f1, f2, a1, a2⟩, a3, a4, a5, a6, a7, a8⟩
    · obtain ⟨rfl, ⟨f1, f2, hz1, hf1⟩, ⟨x1, y1, hTO1⟩, h11, h21, hP1, hs1, hk1⟩ := hC
      refine ⟨_, rfl, wpAny_letOwnedTupleGo_enum (s := { s with heap := h', toks := tk + 1 }) ho fun h'' he' sb2 => ?_⟩
      have up : ∀ c o, c ≠ e → g1.get? c = some o → h''.get? c = some o := fun c o c1 q => (sb2.2 c c1).trans (hk c o c1 q)
      have hn1 : H s.heap.objs.size = none := I.hok.fresh (Nat.le_refl _)
      have hPe : s.heap.objs.size ≠ e := Nat.ne_of_gt hel
      have hT2 : h''.get? g1.objs.size = some { cls := .type "tuple", data := .seq #[.int i tk, .ref s.heap.objs.size] } := (sb2.2 _ (Nat.ne_of_gt (by rw [hs1]; exact Nat.lt_succ_of_lt hel))).trans hT
      have new1 : ObjOk X.prog X.w (upd H s.heap.objs.size (.tup [x, y])) g1 s.heap.objs.size (.tup [x, y]) :=
        ⟨by show 2 ≤ sizeLine; decide, [u, u2], .cons ru (.cons ru2 .nil), ⟨_, hP1, rfl, _, rfl⟩⟩
      have I1 : Inv X pins σ (upd H s.heap.objs.size (.tup [x, y])) { s with heap := g1 } :=
        I.turnedNew (t' := s.toks) (ch := [z, TI, TO, i1, i2]) (fun c o hb q => hk1 c o (fun q' => hb (by simp [q'])) (fun q' => hb (by simp [q'])) (fun q' => hb (by simp [q'])) (fun q' => hb (by simp [q'])) q) (fun c hc => hf c (List.mem_cons_of_mem _ hc)) (Nat.le_refl _) new1
      have hf2 : ∀ c ∈ [e], FpOk X pins (upd H s.heap.objs.size (.tup [x, y])) c := fun c hc => by
        have q := hf c (by rw [List.mem_singleton.mp hc]; simp)
        refine ⟨?_, q.2⟩
        rw [upd_ne (by rw [List.mem_singleton.mp hc]; exact hPe.symm)]
        exact q.1
      have new2 : ObjOk X.prog X.w (upd (upd H s.heap.objs.size (.tup [x, y])) g1.objs.size (.tup [.int (i : Nat), .ref s.heap.objs.size])) h'' g1.objs.size (.tup [.int (i : Nat), .ref s.heap.objs.size]) :=
        ⟨by show 2 ≤ sizeLine; decide, [.int i tk, .ref s.heap.objs.size], .cons ⟨_, rfl⟩ (.cons rfl .nil), ⟨_, hT2, rfl, _, rfl⟩⟩
      have I2 : Inv X pins σ (upd (upd H s.heap.objs.size (.tup [x, y])) g1.objs.size (.tup [.int (i : Nat), .ref s.heap.objs.size])) { s with heap := h'', toks := tk + 1 } :=
        I1.turnedNew (t' := tk + 1) (ch := [e]) (fun c o hb q => up c o (fun q' => hb (by simp [q'])) q) hf2 (Nat.le_refl _) new2
      have hn2 : upd H s.heap.objs.size (.tup [x, y]) g1.objs.size = none := I1.hok.fresh (Nat.le_refl _)
      refine ⟨.ref g1.objs.size, _, I2, rfl, ⟨s.heap.objs.size, g1.objs.size, x, y, rfl, hn1, hn2, rfl, fun l hl => by rw [I.tuple_inj hl hqx]; exact hx, fun l hl => by rw [I.tuple_inj hl hqy]; exact hy⟩, ⟨⟨.ref s.heap.objs.size, ?_⟩, ⟨f1, f2, up _ _ n1.symm hz1, hf1⟩, up _ _ n2.symm (hk1 _ _ D.TIz D.TITO D.TIi1 D.TIi2 hTI), ⟨x1, y1, up _ _ n3.symm hTO1⟩, h11.at fun o q => up _ o n4.symm q, h21.at fun o q => up _ o n5.symm q⟩, fun c hcm => ?_⟩
      · have e1 : ((i + 1 : Nat) : Int) = (i : Int) + 1 := by omega
        rw [e1]
        exact he'
      · have hlt := lt c hcm
        rw [upd_ne (Nat.ne_of_lt (by rw [hs1]; exact Nat.lt_succ_of_lt hlt)), upd_ne (Nat.ne_of_lt hlt)]
        exact (hf c hcm).1
  done := by
    intro X hP hw hK hc i pins s σ H E I hf st hg
    subst hP hw hK
    obtain ⟨⟨old, he⟩, ⟨f0, fb, hz, hf0⟩, hTI, ⟨x0, y0, hTO⟩, h1, h2⟩ := st
    obtain ⟨xs, hqx, hend⟩ := hg
    obtain ⟨its, rv, p, _⟩ := I.tuple hqx
    have l1 := rv.length
    refine enum_stop (C := fun h1 => ∀ c o, c ≠ z → c ≠ TO → c ≠ i1 → c ≠ i2 → s.heap.get? c = some o → h1.get? c = some o) he (fun R E hE => ?_) fun g1 hC => ⟨rfl, I.turnedL (t' := s.toks) (ch := [e, z, TI, TO, i1, i2]) (fun c o hb q =>
      hC c o (fun q' => hb (by simp [q'])) (fun q' => hb (by simp [q'])) (fun q' => hb (by simp [q'])) (fun q' => hb (by simp [q'])) q) hf⟩
    exact zip_nextEnd (A := X.A.in1) (I.ok.hd hc) D hz hf0 hTI hTO h1 (show s.heap.IsTuple a its.toArray from p) (by simp; omega) fun h1 x hk hx => hE h1 x hk hx
  self := fun A i s Q E st h => let ⟨⟨_, he⟩, _⟩ := st; wpAny_pyIter_enum he h
def iEZ (K : PySem.W.Frag) (ta : TA) : TI := fun σ H R => ta σ H fun vs H1 => ∃ a b xs ys, vs = [.ref a, .ref b] ∧ SqT K H1 a xs ∧ SqT K H1 b ys ∧ R (ItEZ K a b) H1
/-- for i, (x, y) in enumerate(zip(t, u)) -/
theorem pi_EZ {X : Cx} {e e2 : Expr} {ta : TA} {p pos p2 pos2 tpos : Pos} {elts : List Expr} {kk : Nat} (hgE : Gl X "enumerate") (hmE : X.mg "enumerate" = none) (hgZ : Gl X "zip") (hmZ : X.mg "zip" = none) (ha : PA X [e, e2] ta)
    (hs : starEach [e, e2] X.env = (false, eval e X.env) :: starEach [e2] X.env := by rfl) (hpl : (backTo pos2 (starEach [e2] X.env)).any (·.1) = false := by rfl) :
    PI X (.Tuple elts kk tpos) (.Call (.Name "enumerate" p) [.Call (.Name "zip" p2) [e, e2] [] pos2] [] pos) (iEZ X.K ta) := by
  refine ⟨fun pins s σ H R I h => ?_⟩
  refine Call_ (ld_blt I hgE hmE boot_enumerate ?_)
  refine PyProof.Rows.callWith_type1 (PyProof.Rows.args_cons ?_ rfl) rfl rfl
  refine Call_ (ld_blt I hgZ hmZ PyProof.Rows.boot_zip (PyProof.Rows.callWith_type1 (thn (ha.run pos2 pins s σ H _ I h) fun us s1 ⟨vs, H1, I1, r1, q1⟩ => ?_) hs hpl))
  obtain ⟨a, b, xs, ys, ex, hqx, hqy, q⟩ := q1
  subst ex
  cases r1 with
  | cons r rr =>
    cases rr with
    | cons r' rr =>
      cases rr
      cases r
      cases r'
      obtain ⟨its, rv, p1, _⟩ := I1.tuple hqx
      obtain ⟨its2, rv2, p2', _⟩ := I1.tuple hqy
      obtain ⟨o1, ho1, _⟩ := id p1
      obtain ⟨o2, ho2, _⟩ := id p2'
      refine RZ.call_zipT (show s1.heap.IsTuple a its.toArray from p1) (show s1.heap.IsTuple b its2.toArray from p2') fun h' hz hTI hTO h1 h2 hsz hk => PyProof.Rows.args_nil ?_
      refine call_enumZ (s := { s1 with heap := h' }) hz fun g he hk2 => wpAny_pyIter_enum he ?_
      have he : IsEnum g h'.objs.size (s1.heap.objs.size + 4) 0 .none := he
      have hk3 : ∀ c o, s1.heap.get? c = some o → g.get? c = some o := fun c o q => hk2 c o (hk c o q)
      have I2 : Inv X pins σ H1 { s1 with heap := g } := I1.kept (t' := s1.toks) hk3
      rw [hsz] at he
      show ∃ it fp tn J H', _
      refine ⟨h'.objs.size, [h'.objs.size, s1.heap.objs.size + 4, s1.heap.objs.size + 2, s1.heap.objs.size + 3, s1.heap.objs.size, s1.heap.objs.size + 1], _, _, H1, rfl, I2, turn_EZ (PySem.W.ktu_apart s1.heap.objs.size a b (Heap.lt_size ho1) (Heap.lt_size ho2)) ?_, ⟨⟨.none, by rw [hsz]; exact he⟩, ⟨.none, false, hk2 _ _ hz, .inl rfl⟩, hk2 _ _ hTI, ⟨_, _, hk2 _ _ hTO⟩, h1.at fun o q => hk2 _ o q, h2.at fun o q => hk2 _ o q⟩, fun c hcm => ?_, q⟩
      · rw [hsz]
        simp only [List.mem_cons, List.not_mem_nil, or_false, not_or]
        exact ⟨Nat.ne_of_gt (by omega), Nat.ne_of_gt (by omega), Nat.ne_of_gt (by omega), Nat.ne_of_gt (by omega), Nat.ne_of_gt (by omega)⟩
      · have hle : s1.heap.objs.size ≤ c := by
          rcases six_of hcm with z | z | z | z | z | z
          · rw [z, hsz]; exact Nat.le_add_right _ _
          · rw [z]; exact Nat.le_add_right _ _
          · rw [z]; exact Nat.le_add_right _ _
          · rw [z]; exact Nat.le_add_right _ _
          · rw [z]; exact Nat.le_refl _
          · rw [z]; exact Nat.le_add_right _ _
        exact I1.fpOk hle (I1.hok.fresh hle)
/-- .. of two tuples of one length -/
theorem walk_EZ {K : PySem.W.Frag} {a b : Addr} {xs ys : List V} (hl : xs.length = ys.length) : Walk (ItEZ K a b) xs.length (fun H => SqT K H a xs ∧ SqT K H b ys)
    (fun i H v H' => ∃ P T x y, v = .ref T ∧ H P = none ∧ upd H P (.tup [x, y]) T = none ∧ H' = upd (upd H P (.tup [x, y])) T (.tup [.int (i : Nat), .ref P]) ∧ xs[i]? = some x ∧ ys[i]? = some y) := by
  refine ⟨fun i _ hi q => ⟨xs, ys, xs[i], ys[i]'(by omega), q.1, q.2, by simp [hi], by simp [show i < ys.length by omega]⟩, fun _ q => ⟨xs, q.1, Nat.le_refl _⟩, fun i H v H' _ q y => ?_⟩
  obtain ⟨P, T, x, z, h1, h2, h3, h4, h5, h6⟩ := y
  exact ⟨P, T, x, z, h1, h2, h3, h4, h5 xs q.1, h6 ys q.2⟩
end U12

set_option Elab.async false
set_option linter.all false
set_option maxRecDepth 100000
set_option maxHeartbeats 4000000
/-! len(set(xs)), xs a list of distinct things: None and whole numbers; tuples of whole numbers. -/
namespace U12
open PySem PySem.Spec
section
variable {prog : Program} {w : World} {A : Around} {I : Addr} {fp wr : List Addr} {G : Array GenState → Array GenState → Prop} {n : Nat} {P : Nat → Value → Prop} {St : Nat → Shared → Prop} {R : Result → Shared → Prop}
variable {κ : Type} [DecidableEq κ] [BEq κ] [LawfulBEq κ] {knd : KeyKind prog w κ}
/-- which stand among the first i -/
def among (val : Nat → κ) (i : Nat) (k : κ) : Bool := (List.range i).any fun j => decide (val j = k)
theorem among_succ (val : Nat → κ) (i : Nat) (k : κ) : among val (i + 1) k = (among val i k || decide (k = val i)) := by
  unfold among
  rw [List.range_succ, List.any_append]
  congr 1
  simp only [List.any_cons, List.any_nil, Bool.or_false]
  exact decide_eq_decide.mpr ⟨Eq.symm, Eq.symm⟩
theorem among_no {val : Nat → κ} {i : Nat} (h : ∀ j, j < i → val j ≠ val i) : among val i (val i) = false := by
  unfold among
  rw [List.any_eq_false]
  intro j hj
  simp only [decide_eq_true_eq]
  exact h j (List.mem_range.mp hj)
/-- the set grows by each item -/
theorem grow_loop (W : WalksS prog w A.in1 I fp wr G n P St) (S : Addr) (hSf : S ∉ fp) (val : Nat → κ) (hval : ∀ i v, P i v → knd.is (val i) v = true ∧ v.scannable = true) (hd : ∀ j i, j < i → i < n → val j ≠ val i) (hb : n + 1 < scanBound) :
    ∀ (k i : Nat) (s : Shared), n - i = k → i ≤ n → St i s → s.heap.SetOf knd S (among val i) i →
      (∀ s', Moved (S :: wr) G s s' → s'.heap.SetOf knd S (among val n) n → R (.ok (.ret .none)) s') →
      codeAny (model prog w) A (.builtin "set.update.loop" ⟨[.ref S, .ref I], []⟩) R s := by
  have hSw : S ∉ wr := fun h => hSf (W.sub _ h)
  have hsub : ∀ b ∈ wr, b ∈ S :: wr := fun b hb => List.mem_cons_of_mem _ hb
  intro k
  induction k with
  | zero =>
    intro i s hk hi hst hS hR
    obtain rfl : i = n := by omega
    refine codeAny_builtin PyProof.Rows.F.entry_set_update_loop ?_
    rw [Around.under_plainId PyProof.Rows.F.plain_set_update_loop _]
    show wpAny _ A.in1 (pyNext (.ref I) >>= _) _ _ s
    refine wpAny_bind (W.done s _ _ hst fun s' hm => ?_)
    show wpAny _ A.in1 (ret Value.none) _ _ s'
    obtain ⟨o, es, ep, t, ho, rest⟩ := hS
    exact wpAny_pure (hR s' (hm.mono hsub) ⟨o, es, ep, t, hm.heap S _ hSw ho, rest⟩)
  | succ k ih =>
    intro i s hk hi hst hS hR
    have hlt : i < n := by omega
    refine codeAny_builtin PyProof.Rows.F.entry_set_update_loop ?_
    rw [Around.under_plainId PyProof.Rows.F.plain_set_update_loop _]
    show wpAny _ A.in1 (pyNext (.ref I) >>= _) _ _ s
    refine wpAny_bind (W.item i s _ _ hlt hst fun v s' hP hst' hm => ?_)
    obtain ⟨hv, hsc⟩ := hval i v hP
    have hS' : s'.heap.SetOf knd S (among val i) i := by
      obtain ⟨o, es, ep, tb, ho, rest⟩ := hS
      exact ⟨o, es, ep, tb, hm.heap S _ hSw ho, rest⟩
    show wpAny _ A.in1 (holding [v] (setAdd S v) >>= _) _ _ s'
    refine wpAny_bind (wpAny_holding ?_)
    unfold setAdd
    refine wpAny_holding ?_
    refine wpAny_bind (knd.pyHash (k := val i) hv ?_)
    refine wpAny_setAddHashed_of (knd := knd) (s := { s' with toks := s'.toks + 1 }) hv hsc hS' (by omega) fun h' hsb hS2 => ?_
    have hno : among val i (val i) = false := among_no fun j hj => hd j i hj hlt
    have hSi : h'.SetOf knd S (among val (i + 1)) (i + 1) :=
      PyProof.Rows.SetOf_congr hS2 (fun k' => (among_succ val i k').symm) (by rw [hno]; rfl)
    refine wpAny_pure ⟨plainId_quiet PyProof.Rows.F.plain_set_update_loop _, ih (i + 1) _ (by omega) hlt (W.frame _ s' _ _ hst' (Nat.le_succ _) fun b hb o e => ?_) hSi fun s'' hm'' hS'' => ?_⟩
    · exact (hsb.2 b (fun h : b = S => hSf (by rw [← h]; exact hb))).trans e
    · refine hR s'' (Moved.trans W.gtrans ((hm.mono hsub).then_heap (Nat.le_succ _) fun b o hb e => ?_) hm'') hS''
      exact (hsb.2 b (fun h : b = S => hb (by rw [h]; exact List.mem_cons_self))).trans e
end
section
variable {prog : Program} {w : World} {A : Around} {E : Value → Shared → Prop} {s : Shared}
variable {κ : Type} [DecidableEq κ] [BEq κ] [LawfulBEq κ] {knd : KeyKind prog w κ}
theorem set_of_list {l : Addr} {items : Array Value} {val : Nat → κ} {Q : Value → Shared → Prop} (hh : A.handled = none) (hl : s.heap.IsList l items)
    (hval : ∀ i v, items[i]? = some v → knd.is (val i) v = true ∧ v.scannable = true) (hd : ∀ j i, j < i → i < items.size → val j ≠ val i) (hb : items.size + 1 < scanBound)
    (h : ∀ (h' : Heap) (tk : Nat), h'.SetOf knd s.heap.objs.size (among val items.size) items.size →
      (∀ b o, b < s.heap.objs.size → s.heap.get? b = some o → h'.get? b = some o) → Q (.ref s.heap.objs.size) { s with heap := h', toks := tk }) :
    wpAny (model prog w) A (call (.type "set") [.ref l]) Q E s := by
  obtain ⟨c, tl, hmro⟩ := F.called_set.mro
  have hmade := F.called_set.made
  have hsub := F.called_set.sub
  refine wpAny_call (codeAny_of_tree ?_)
  show wpAny _ _ (callAny (.type "set") _) _ _ _
  refine wpAny_pure ⟨Code.quiet_builtin _ (by decide +kernel), codeAny_builtin F.entry_type_call ?_⟩
  rw [Around.under_plain (weight_type_call_type "set" [.ref l] []) rfl]
  have h1 := F.called_set.notType
  have h2 := F.called_set.canCreate
  have hct := F.typeCall_set_1 (.ref l)
  repeat (any_goals (first | assumption | wp_step))
  refine codeAny_mono (code_set_new_1 (.ref l) (E := E) (Q₁ := fun obj s₁ => ∃ led : Bool, obj = .ref s.heap.objs.size ∧ s₁ = { s with heap := s.heap.push { cls := .type "set", dict := none, data := .set #[] 0 (.fresh 0 0 led) } }) fun led => ⟨led, rfl, rfl⟩) fun r s₁ hr => ?_
  cases r with
  | error e => exact hr
  | ok fl =>
    cases fl with
    | ret obj =>
      obtain ⟨led, rfl, rfl⟩ := hr
      have hS : (s.heap.push { cls := .type "set", dict := none, data := .set #[] 0 (.fresh 0 0 led) }).get? s.heap.objs.size = some { cls := .type "set", dict := none, data := .set #[] 0 (.fresh 0 0 led) } := Heap.get?_push_size _ rfl
      have hT : Shared.TypeIs { s with heap := s.heap.push { cls := .type "set", dict := none, data := .set #[] 0 (.fresh 0 0 led) } } (.ref s.heap.objs.size) "set" := ⟨_, hS, rfl⟩
      have hli := F.called_set.init.lookup
      have hbi := F.called_set.init.bind (.ref s.heap.objs.size)
      repeat (any_goals (first | assumption | wp_step))
      refine codeAny_mono (codeAny_call_builtin (R := wants (fun r s₂ => r = .none ∧ ∃ h' tk, s₂ = { s with heap := h', toks := tk } ∧ h'.SetOf knd s.heap.objs.size (among val items.size) items.size ∧
          (∀ b o, b < s.heap.objs.size → s.heap.get? b = some o → h'.get? b = some o)) E) F.called_set.init.plain F.entry_set_init (check_set_init_1 hT ?_)) fun r₂ s₂ hr₂ => ?_
      · obtain ⟨⟨ocls, odict, odata, oslots⟩, hol, hcl, nl, hdl⟩ := hl
        simp only at hcl hdl
        subst hcl
        subst hdl
        have hol' : (s.heap.push { cls := .type "set", dict := none, data := .set #[] 0 (.fresh 0 0 led) }).get? l = some { cls := .type "list", dict := odict, data := .seq items nl, slots := oslots } := Heap.get?_push_of_some _ hol
        have hsls := F.sub_list_set
        have hslf := F.sub_list_frozenset
        have hne : (Value.type "list" == Value.type "dict") = false := by decide
        have hl1 : (s.heap.push { cls := .type "set", dict := none, data := .set #[] 0 (.fresh 0 0 led) }).IsList l items := ⟨_, hol', rfl, nl, rfl⟩
        unfold Builtin.«set.__init__» noKeywords Builtin.Frozenset.updateFrom
        generalize hPI : pyIter = PI
        wp_walk
        subst hPI
        refine wpAny_pyIter_list hl1 ?_
        refine wpAny_bind (wpAny_runValue ?_)
        have hlS : l < s.heap.objs.size := Heap.lt_size hol
        have hh3 : A.in1.in1.in1.handled = none := by simp [hh]
        have hneI : l ≠ (s.heap.push { cls := .type "set", dict := none, data := .set #[] 0 (.fresh 0 0 led) }).objs.size := by
          rw [Heap.size_push]
          exact Nat.ne_of_lt (Nat.lt_succ_of_lt hlS)
        have hSf : s.heap.objs.size ∉ [(s.heap.push { cls := .type "set", dict := none, data := .set #[] 0 (.fresh 0 0 led) }).objs.size, l] := by
          rw [Heap.size_push]
          simp only [List.mem_cons, List.not_mem_nil, or_false, not_or]
          exact ⟨Nat.ne_of_lt (Nat.lt_succ_self _), Nat.ne_of_gt hlS⟩
        refine grow_loop (knd := knd) ((Walks.list hh3 _ l hneI items).toS) s.heap.objs.size hSf val hval hd hb (items.size - 0) 0 _ (by omega) (Nat.zero_le _) ⟨⟨_, Heap.get?_push_size _ rfl, rfl, rfl⟩, (hl1.push _)⟩ ?hS0 ?hR
        case hS0 =>
          exact PyProof.Rows.SetOf_congr ((PyProof.Rows.setObjOf_fresh (knd := knd) led).setOf (Heap.get?_push_of_some _ hS) (by unfold scanBound; omega)) (fun _ => rfl) rfl
        case hR =>
          intro s' hm hS'
          obtain ⟨h', g', d', tk', os'⟩ := s'
          have eg : g' = s.gens := hm.gens
          have ed : d' = s.drawn := hm.drawn
          have eo : os' = s.os := hm.os
          subst eg
          subst ed
          subst eo
          show wpAny _ _ _ _ _ _
          refine wpAny_pure ?_
          show wpAny _ _ (ret Value.none) _ _ _
          refine wpAny_pure ⟨rfl, h', tk', rfl, hS', fun b o hb e => ?_⟩
          have b1 : b ≠ s.heap.objs.size := Nat.ne_of_lt hb
          have b2 : b ≠ (s.heap.push { cls := .type "set", dict := none, data := .set #[] 0 (.fresh 0 0 led) }).objs.size := by
            rw [Heap.size_push]
            exact Nat.ne_of_lt (Nat.lt_succ_of_lt hb)
          exact hm.heap b o (by simp only [List.mem_cons, List.not_mem_nil, or_false, not_or]; exact ⟨b1, b2⟩) (Heap.get?_push_of_some _ (Heap.get?_push_of_some _ e))
      · cases r₂ with
        | error e => exact hr₂
        | ok fl₂ =>
          cases fl₂ with
          | ret r =>
            obtain ⟨rfl, h', tk, rfl, hS', hk'⟩ := hr₂
            repeat (any_goals (first | assumption | wp_step))
            exact h _ _ hS' hk'
          | _ => exact hr₂.elim
    | _ => exact hr.elim
end
end U12

set_option Elab.async false
set_option linter.all false
set_option maxRecDepth 100000
set_option maxHeartbeats 4000000
/-! Rules that this program's text wants besides the layer's. -/
namespace U12
open PySem PySem.Spec PyProof.Rows L2
/-- outside, or a house -/
def oV : Option Nat → V
  | none => .non
  | some h => .int (h : Int)
def oKey : Option Nat → Option Key
  | none => none
  | some h => some (Sum.inl (h : Int))
theorem oKey_inj {a b : Option Nat} (h : oKey a = oKey b) : a = b := by
  cases a <;> cases b
  · rfl
  · cases h
  · cases h
  · rename_i x y
    have e : ((x : Int)) = (y : Int) := Sum.inl.inj (Option.some.inj h)
    rw [show x = y by omega]
theorem oKey_is {P : Program} {w : World} {o : Option Nat} {u : Value} (r : RelV (oV o) u) : (noneKind P w).is (oKey o) u = true ∧ u.scannable = true := by
  cases o with
  | none =>
    have e : u = .none := r
    subst e
    exact ⟨rfl, rfl⟩
  | some h =>
    obtain ⟨t, rfl⟩ := (show ∃ t, u = Value.int (h : Int) t from r)
    exact ⟨keyIs_int _ t, rfl⟩
section
variable {X : Cx}
def tLenSetN (K : PySem.W.Frag) (ta : TE) : TE := fun σ H Q => ta σ H fun x H1 => ∃ (l : Addr) (os : List (Option Nat)), x = V.ref l ∧ SqL K H1 l (os.map oV) ∧ os.Nodup ∧ os.length ≤ 1000 ∧ Q (.int os.length) H1
theorem pe_lenSetN {a : Expr} {ta : TE} {p p2 q pos : Pos} (hc : X.calm = true) (hg : Gl X "len") (hm : X.mg "len" = none) (hg2 : Gl X "set") (hm2 : X.mg "set" = none) (ha : PE X a ta)
    (na : starEach [a] X.env = (false, eval a X.env) :: starEach [] X.env := by rfl) : PE X (.Call (.Name "len" p) [.Call (.Name "set" p2) [a] [] q] [] pos) (tLenSetN X.K ta) := by
  refine ⟨fun pins s σ H Q I h => ?_⟩
  refine Call_ (ld_blt I hg hm boot_len ?_)
  refine PyProof.Rows.callWith_builtin1 (PyProof.Rows.args_cons ?_ rfl) rfl rfl
  refine Call_ (ld_blt I hg2 hm2 boot_set ?_)
  refine PyProof.Rows.callWith_type1 (PyProof.Rows.args_cons (thn (ha.run pins s σ H _ I h) fun v s1 ⟨x, H1, I1, r1, q1⟩ => PyProof.Rows.args_nil ?_) na) na rfl
  obtain ⟨l, os, rfl, hq, hnd, hl, q1⟩ := q1
  cases r1
  obtain ⟨its, r, pl, hz⟩ := I1.list hq
  have hlen : its.toArray.size = os.length := by rw [List.size_toArray, ← r.length, List.length_map]
  have hat : ∀ i : Nat, i < os.length → os.getD i none = os[i]! := fun i hi => by simp [hi]
  refine @set_of_list _ _ _ _ _ (Option Key) _ instBEqOfDecidableEq inferInstance (noneKind X.prog X.w) _ _ (fun i => oKey (os.getD i none)) _ (I1.ok.hd hc) pl.isList (fun i v hv => ?_) (fun j i hji hi e => ?_) (by rw [hlen]; unfold scanBound; omega) fun h' tk hS hk => ?_
  · have hi : i < os.length := by
      rw [← hlen]
      exact (Array.getElem?_eq_some_iff.mp hv).1
    have e : (os.map oV)[i]? = some (oV (os.getD i none)) := by
      rw [List.getElem?_map, List.getElem?_eq_getElem hi, List.getD_eq_getElem?_getD, List.getElem?_eq_getElem hi]
      rfl
    obtain ⟨u, hu, ru⟩ := r.get e
    have e2 : u = v := by
      have z : its[i]? = some v := by simpa using hv
      rw [hu] at z
      exact Option.some.inj z
    subst e2
    exact oKey_is ru
  · rw [hlen] at hi
    have e2 := oKey_inj e
    rw [List.getD_eq_getElem?_getD, List.getD_eq_getElem?_getD, List.getElem?_eq_getElem hi, List.getElem?_eq_getElem (Nat.lt_trans hji hi)] at e2
    exact absurd e2 (List.pairwise_iff_getElem.mp hnd j i (Nat.lt_trans hji hi) hi hji)
  · refine PyProof.Rows.args_nil ?_
    rw [hlen] at hS
    obtain ⟨o, es, ep, t, ho, hex, hd, _, _, _, hf, hn⟩ := hS
    have I2 : Inv X pins σ H1 { s1 with heap := h', toks := tk } := I1.kept fun b o e => hk b o (Heap.lt_size e) e
    exact call_len_set ho hex hd hf (by rw [hn]; omega) ⟨.int os.length, H1, I2.tok _, ⟨_, by rw [hn]⟩, q1⟩
def tLenSetT (K : PySem.W.Frag) (ta : TE) : TE := fun σ H Q => ta σ H fun x H1 => ∃ (l : Addr) (ks : List (Addr × List Int)), x = V.ref l ∧ SqL K H1 l (ks.map fun p => V.ref p.1) ∧ (∀ p ∈ ks, SqT K H1 p.1 (p.2.map V.int)) ∧ (ks.map (·.2)).Nodup ∧ ks.length < 64 ∧ Q (.int ks.length) H1
theorem pe_lenSetT {a : Expr} {ta : TE} {p p2 q pos : Pos} (hc : X.calm = true) (hu : X.A.units + 64 < cLine) (hg : Gl X "len") (hm : X.mg "len" = none) (hg2 : Gl X "set") (hm2 : X.mg "set" = none) (ha : PE X a ta)
    (na : starEach [a] X.env = (false, eval a X.env) :: starEach [] X.env := by rfl) : PE X (.Call (.Name "len" p) [.Call (.Name "set" p2) [a] [] q] [] pos) (tLenSetT X.K ta) := by
  refine ⟨fun pins s σ H Q I h => ?_⟩
  refine Call_ (ld_blt I hg hm boot_len ?_)
  refine PyProof.Rows.callWith_builtin1 (PyProof.Rows.args_cons ?_ rfl) rfl rfl
  refine Call_ (ld_blt I hg2 hm2 boot_set ?_)
  refine PyProof.Rows.callWith_type1 (PyProof.Rows.args_cons (thn (ha.run pins s σ H _ I h) fun v s1 ⟨x, H1, I1, r1, q1⟩ => PyProof.Rows.args_nil ?_) na) na rfl
  obtain ⟨l, ks, rfl, hl, hk, hnd, hf, q1⟩ := q1
  cases r1
  obtain ⟨its, rv, pl, hz⟩ := I1.list hl
  refine call_set_tups (P := X.prog) (w := X.w) ks (I1.ok.hd hc) pl.isList (by simpa using refs_of_vals rv) (fun p hp => I1.isT (hk p hp)) hf (by omega) fun h' tk L es ep t R g k => ?_
  refine PyProof.Rows.args_nil ?_
  obtain ⟨o, ho, hex, hd⟩ := R.ob
  have I2 : Inv X pins σ H1 { s1 with heap := h', toks := tk } := I1.kept k
  have e1 : L.length = ks.length := by
    have a := nodup_le (L.map (·.2)) (ks.map (·.2)) R.nd fun x hx => by
      obtain ⟨p, hp, rfl⟩ := List.mem_map.mp hx
      exact List.mem_map.mpr ⟨p, List.mem_of_mem_take (g.sub p hp), rfl⟩
    have b := nodup_le (ks.map (·.2)) (L.map (·.2)) hnd fun x hx => by
      obtain ⟨p, hp, rfl⟩ := List.mem_map.mp hx
      exact g.all p (by rw [List.take_length]; exact hp)
    simp only [List.length_map] at a b
    omega
  have e2 : es.size = ks.length := by
    have z := R.size (s := { s1 with heap := h', toks := tk })
    omega
  exact call_len_set ho hex hd (R.fits (s := { s1 with heap := h', toks := tk })) (by rw [e2]; omega) ⟨.int ks.length, H1, I2.tok _, ⟨_, by rw [e2]⟩, q1⟩
/-- xs[i], for xs[i] op= e -/
theorem get_list : PGet X (rIxL X.K) := by
  intro pins s σ H o i ov iv Q I ro ri h
  obtain ⟨p, xs, i, z, rfl, rfl, hq, he, q⟩ := h
  cases ro
  obtain ⟨t, rfl⟩ := ri
  obtain ⟨its, r, pl, hz⟩ := I.list hq
  obtain ⟨j, h1, h2, h3, h4, h5⟩ := atI_get he
  obtain ⟨w, ew, rw'⟩ := r.get h2
  have hl := r.length
  have hn := line63
  have fin : EP X pins σ Q w s := ⟨z, H, I, rw', q⟩
  by_cases h0 : 0 ≤ i
  · have hj : i.toNat = j := by
      rw [seqIndex_of h0 h5] at h1
      exact Option.some.inj h1
    exact wpAny_getItem_list pl.isList h0 (by omega) (by rw [hj]; simpa using ew) fin
  · have hj : (i + (its.toArray.size : Int)).toNat = j := by
      rw [seqIndex_neg (by omega) h4] at h1
      rw [List.size_toArray, ← hl]
      exact Option.some.inj h1
    exact wpAny_getItem_list_neg pl.isList (by omega) (by rw [List.size_toArray] <;> omega) (by omega) (by rw [hj]; simpa using ew) fin
end
end U12

set_option Elab.async false
set_option linter.all false
set_option maxRecDepth 100000
set_option maxHeartbeats 4000000
/-! min(t), t a tuple of whole numbers. -/
namespace U12
open PySem PySem.Spec PyProof.Rows L2
section
variable {prog : Program} {w : World} {A : Around} {E : Value → Shared → Prop} {s : Shared} {l : Addr}
theorem min_tupI {xs : Array (Int × Tok)} {Q : Value → Shared → Prop} (hh : A.handled = none) (hl : s.heap.IsTuple l (intItems xs)) (hne : 0 < xs.size)
    (h : ∀ v h' tk, (intItems xs)[argBest (fun i j => decide (numAt xs i < numAt xs j)) (xs.size - 1)]? = some v → (∀ b o, s.heap.get? b = some o → h'.get? b = some o) → Q v { s with heap := h', toks := tk }) :
    wpAny (model prog w) A (call (.builtin "min") [.ref l]) Q E s := by
  have hlt : l < s.heap.objs.size := by
    obtain ⟨o, e, _⟩ := hl
    exact Heap.lt_size e
  refine call_min_walk (wpAny_pyIter_tuple hl ?_)
  have hni : l ≠ s.heap.objs.size := Nat.ne_of_lt hlt
  refine ⟨s.heap.objs.size, _, _, _, _, _, _, rfl, Walks.tuple (A := A.in1) hh s.heap.objs.size l hni (intItems xs), ⟨⟨_, Heap.get?_push_size _ rfl, rfl, rfl⟩, ?_⟩, fun b hb => ?_, by simpa [intItems] using hne, CmpOf.ints_lt (numAt xs) (fun _ _ => intItems_at), fun v h' tk hP hk => ?_⟩
  · obtain ⟨o, e, c, n, d⟩ := hl
    exact ⟨o, Heap.get?_push_of_some _ e, c, n, d⟩
  · show b < (s.heap.push _).objs.size
    rw [Heap.size_push]
    have e : b = s.heap.objs.size ∨ b = l := by simpa using hb
    rcases e with e | e
    · rw [e]
      exact Nat.lt_succ_self _
    · rw [e]
      exact Nat.lt_succ_of_lt hlt
  · exact h v h' tk (by simpa [intItems] using hP) fun b o e => hk b o (by simp only [List.mem_singleton]; exact Nat.ne_of_lt (Heap.lt_size e)) (Heap.get?_push_of_some _ e)
theorem min_tupN {its : List Value} {ns : List Int} {Q : Value → Shared → Prop} (hh : A.handled = none) (hl : s.heap.IsTuple l its.toArray) (hi : IntsAre its ns) (hne : 0 < ns.length)
    (h : ∀ h' tk M t', (∀ b o, s.heap.get? b = some o → h'.get? b = some o) → M ∈ ns → (∀ a, a ∈ ns → M ≤ a) → Q (.int M t') { s with heap := h', toks := tk }) : wpAny (model prog w) A (call (.builtin "min") [.ref l]) Q E s := by
  obtain ⟨xs, e⟩ := hi.allInts.items
  have hn : numsOf (intItems xs).toList = ns := by rw [← e]; exact hi.numsOf
  rw [nums_intItems] at hn
  subst hn
  rw [e] at hl
  refine min_tupI hh hl (by simpa using hne) fun v h' tk hv hk => ?_
  obtain ⟨t, rfl⟩ := intItems_at hv
  obtain ⟨h1, h2⟩ := argBest_lt (numAt xs) (xs.size - 1)
  have hsz : 0 < xs.size := by simpa using hne
  refine h h' tk _ t hk ?_ fun a ha => ?_
  · rw [numAt_eq]
    exact PySem.getD_mem (by rw [List.length_map, Array.length_toList]; omega)
  · obtain ⟨j, hj, rfl⟩ := mem_getD ha
    rw [List.length_map, Array.length_toList] at hj
    rw [← numAt_eq]
    exact h2 j (by omega)
end
section
variable {X : Cx} {K : PySem.W.Frag}
def rMinT (K : PySem.W.Frag) : List V → Hp → VK → Prop := fun vs H Q => ∃ (a : Addr) (ns : List Int), vs = [V.ref a] ∧ SqT K H a (ns.map V.int) ∧ 0 < ns.length ∧ ∀ m, m ∈ ns → (∀ y, y ∈ ns → m ≤ y) → Q (.int m) H
theorem crMinT (hc : X.calm = true) (h : X.K = K := by rfl) : CallR X (.builtin "min") (rMinT K) := by
  subst h
  intro pins s σ H vs us Q I r h
  obtain ⟨a, ns, rfl, hs, hne, q⟩ := h
  obtain ⟨its, rv, hl, _⟩ := I.tuple hs
  rw [Vals.ref1 r]
  exact min_tupN (I.ok.hd hc) (show s.heap.IsTuple a its.toArray from hl) rv.ints hne fun h' tk m t' hk h1 h2 => ⟨.int _, H, I.kept hk, ⟨_, rfl⟩, q m h1 h2⟩
end
end U12

set_option Elab.async false
set_option linter.all false
set_option maxRecDepth 100000
set_option maxHeartbeats 4000000
/-! The text by places; the layer's rules with the written part named; webs, rows and decks in the heap. -/
namespace U12
open PySem PySem.Spec PyProof.Rows L2
def top (i : Nat) : Stmt := PySem.Challenge.pw_unturned_k12_whole_ways_laid_together.main.body.getD i (.Pass ⟨0, 0, 0, 0⟩)
abbrev s_is_number : Stmt := top 1
abbrev N_is_number : List Str := [("thing" : Str), ("low" : Str), ("high" : Str)]
abbrev P_is_number : List Str := [("thing" : Str), ("low" : Str), ("high" : Str)]
theorem sc_is_number : FnScope N_is_number P_is_number (defScope s_is_number) := ⟨rfl, rfl, rfl, by decide +kernel, rfl, by decide +kernel, by decide +kernel⟩
abbrev s_is_row : Stmt := top 2
abbrev N_is_row : List Str := [("thing" : Str), ("least" : Str), ("most" : Str)]
abbrev P_is_row : List Str := [("thing" : Str), ("least" : Str), ("most" : Str)]
theorem sc_is_row : FnScope N_is_row P_is_row (defScope s_is_row) := ⟨rfl, rfl, rfl, by decide +kernel, rfl, by decide +kernel, by decide +kernel⟩
abbrev s_houses_of : Stmt := top 3
abbrev N_houses_of : List Str := [("web" : Str)]
abbrev P_houses_of : List Str := [("web" : Str)]
theorem sc_houses_of : FnScope N_houses_of P_houses_of (defScope s_houses_of) := ⟨rfl, rfl, rfl, by decide +kernel, rfl, by decide +kernel, by decide +kernel⟩
abbrev s_next_roads : Stmt := top 5
abbrev N_next_roads : List Str := [("web" : Str), ("bears" : Str), ("house" : Str), ("number" : Str), ("road" : Str)]
abbrev P_next_roads : List Str := [("web" : Str), ("bears" : Str), ("house" : Str)]
theorem sc_next_roads : FnScope N_next_roads P_next_roads (defScope s_next_roads) := ⟨rfl, rfl, rfl, by decide +kernel, rfl, by decide +kernel, by decide +kernel⟩
abbrev s_led_on : Stmt := top 6
abbrev N_led_on : List Str := [("web" : Str), ("bears" : Str), ("first" : Str), ("row" : Str), ("begun" : Str), ("house" : Str)]
abbrev P_led_on : List Str := [("web" : Str), ("bears" : Str), ("first" : Str)]
theorem sc_led_on : FnScope N_led_on P_led_on (defScope s_led_on) := ⟨rfl, rfl, rfl, by decide +kernel, rfl, by decide +kernel, by decide +kernel⟩
abbrev s_turned_round : Stmt := top 7
abbrev N_turned_round : List Str := [("row" : Str), ("at" : Str)]
abbrev P_turned_round : List Str := [("row" : Str)]
theorem sc_turned_round : FnScope N_turned_round P_turned_round (defScope s_turned_round) := ⟨rfl, rfl, rfl, by decide +kernel, rfl, by decide +kernel, by decide +kernel⟩
abbrev s_bundle : Stmt := top 8
abbrev N_bundle : List Str := [("web" : Str), ("stream" : Str), ("bears" : Str), ("found" : Str), ("starts" : Str), ("first" : Str), ("row" : Str), ("at" : Str), ("many" : Str), ("number" : Str), ("roads" : Str), ("road" : Str)]
abbrev P_bundle : List Str := [("web" : Str), ("stream" : Str)]
theorem sc_bundle : FnScope N_bundle P_bundle (defScope s_bundle) := ⟨rfl, rfl, rfl, by decide +kernel, rfl, by decide +kernel, by decide +kernel⟩
abbrev s_is_chain : Stmt := top 9
abbrev N_is_chain : List Str := [("web" : Str), ("roads" : Str), ("begins" : Str), ("ends" : Str), ("number" : Str)]
abbrev P_is_chain : List Str := [("web" : Str), ("roads" : Str)]
theorem sc_is_chain : FnScope N_is_chain P_is_chain (defScope s_is_chain) := ⟨rfl, rfl, rfl, by decide +kernel, rfl, by decide +kernel, by decide +kernel⟩
abbrev s_is_way : Stmt := top 10
abbrev N_is_way : List Str := [("web" : Str), ("roads" : Str), ("begin" : Str), ("end" : Str), ("one" : Str)]
abbrev P_is_way : List Str := [("web" : Str), ("roads" : Str)]
theorem sc_is_way : FnScope N_is_way P_is_way (defScope s_is_way) := ⟨rfl, rfl, rfl, by decide +kernel, rfl, by decide +kernel, by decide +kernel⟩
abbrev s_is_bundle_row : Stmt := top 11
abbrev N_is_bundle_row : List Str := [("web" : Str), ("thing" : Str)]
abbrev P_is_bundle_row : List Str := [("web" : Str), ("thing" : Str)]
theorem sc_is_bundle_row : FnScope N_is_bundle_row P_is_bundle_row (defScope s_is_bundle_row) := ⟨rfl, rfl, rfl, by decide +kernel, rfl, by decide +kernel, by decide +kernel⟩
abbrev s_bundle_holds : Stmt := top 12
abbrev N_bundle_holds : List Str := [("web" : Str), ("stream" : Str), ("thing" : Str), ("found" : Str), ("roads" : Str), ("many" : Str), ("number" : Str), ("ways" : Str), ("row" : Str)]
abbrev P_bundle_holds : List Str := [("web" : Str), ("stream" : Str), ("thing" : Str)]
theorem sc_bundle_holds : FnScope N_bundle_holds P_bundle_holds (defScope s_bundle_holds) := ⟨rfl, rfl, rfl, by decide +kernel, rfl, by decide +kernel, by decide +kernel⟩
abbrev s_sums : Stmt := top 14
abbrev N_sums : List Str := [("web" : Str), ("stream" : Str), ("side" : Str), ("found" : Str), ("road" : Str), ("many" : Str)]
abbrev P_sums : List Str := [("web" : Str), ("stream" : Str), ("side" : Str)]
theorem sc_sums : FnScope N_sums P_sums (defScope s_sums) := ⟨rfl, rfl, rfl, by decide +kernel, rfl, by decide +kernel, by decide +kernel⟩
abbrev s_is_amount : Stmt := top 15
abbrev N_is_amount : List Str := [("thing" : Str)]
abbrev P_is_amount : List Str := [("thing" : Str)]
theorem sc_is_amount : FnScope N_is_amount P_is_amount (defScope s_is_amount) := ⟨rfl, rfl, rfl, by decide +kernel, rfl, by decide +kernel, by decide +kernel⟩
abbrev s_streamfault : Stmt := top 16
abbrev N_streamfault : List Str := [("web" : Str), ("thing" : Str), ("many" : Str), ("number" : Str), ("road" : Str), ("house" : Str), ("gone" : Str), ("come" : Str), ("one" : Str)]
abbrev P_streamfault : List Str := [("web" : Str), ("thing" : Str)]
theorem sc_streamfault : FnScope N_streamfault P_streamfault (defScope s_streamfault) := ⟨rfl, rfl, rfl, by decide +kernel, rfl, by decide +kernel, by decide +kernel⟩
abbrev s__law_deck : Stmt := top 18
abbrev N__law_deck : List Str := [("_law_script" : Str), ("_law_cells" : Str), ("_law_cell" : Str)]
abbrev P__law_deck : List Str := [("_law_script" : Str)]
theorem sc__law_deck : FnScope N__law_deck P__law_deck (defScope s__law_deck) := ⟨rfl, rfl, rfl, by decide +kernel, rfl, by decide +kernel, by decide +kernel⟩
abbrev s__law_next : Stmt := top 19
abbrev N__law_next : List Str := [("_law_deck_here" : Str), ("_law_many" : Str), ("_law_rest" : Str), ("_law_cell" : Str), ("_law_mixed" : Str)]
abbrev P__law_next : List Str := [("_law_deck_here" : Str), ("_law_many" : Str)]
theorem sc__law_next : FnScope N__law_next P__law_next (defScope s__law_next) := ⟨rfl, rfl, rfl, by decide +kernel, rfl, by decide +kernel, by decide +kernel⟩
abbrev s__law_one : Stmt := top 20
abbrev N__law_one : List Str := [("_law_deck_here" : Str), ("_law_some" : Str)]
abbrev P__law_one : List Str := [("_law_deck_here" : Str), ("_law_some" : Str)]
theorem sc__law_one : FnScope N__law_one P__law_one (defScope s__law_one) := ⟨rfl, rfl, rfl, by decide +kernel, rfl, by decide +kernel, by decide +kernel⟩
abbrev s__law_room : Stmt := top 21
abbrev N__law_room : List Str := [("_law_deck_here" : Str), ("_law_far" : Str), ("_law_small" : Str), ("_law_great" : Str)]
abbrev P__law_room : List Str := [("_law_deck_here" : Str), ("_law_far" : Str)]
theorem sc__law_room : FnScope N__law_room P__law_room (defScope s__law_room) := ⟨rfl, rfl, rfl, by decide +kernel, rfl, by decide +kernel, by decide +kernel⟩
abbrev s__law_order : Stmt := top 22
abbrev N__law_order : List Str := [("_law_deck_here" : Str), ("_law_numbers" : Str), ("_law_found" : Str), ("_law_number" : Str)]
abbrev P__law_order : List Str := [("_law_deck_here" : Str), ("_law_numbers" : Str)]
theorem sc__law_order : FnScope N__law_order P__law_order (defScope s__law_order) := ⟨rfl, rfl, rfl, by decide +kernel, rfl, by decide +kernel, by decide +kernel⟩
abbrev s__law_road : Stmt := top 23
abbrev N__law_road : List Str := [("_law_deck_here" : Str), ("_law_houses" : Str), ("_law_far" : Str), ("_law_one_here" : Str), ("_law_other" : Str), ("_law_begin" : Str), ("_law_end" : Str), ("_law_number" : Str)]
abbrev P__law_road : List Str := [("_law_deck_here" : Str), ("_law_houses" : Str), ("_law_far" : Str)]
theorem sc__law_road : FnScope N__law_road P__law_road (defScope s__law_road) := ⟨rfl, rfl, rfl, by decide +kernel, rfl, by decide +kernel, by decide +kernel⟩
abbrev s__law_web : Stmt := top 24
abbrev N__law_web : List Str := [("_law_deck_here" : Str), ("_law_houses" : Str), ("_law_roads" : Str), ("_law_far" : Str), ("_law_count" : Str), ("_law_found" : Str), ("_law_orders" : Str), ("_law_side" : Str), ("_law_rows" : Str), ("_law_house" : Str), ("_law_k" : Str)]
abbrev P__law_web : List Str := [("_law_deck_here" : Str), ("_law_houses" : Str), ("_law_roads" : Str), ("_law_far" : Str)]
theorem sc__law_web : FnScope N__law_web P__law_web (defScope s__law_web) := ⟨rfl, rfl, rfl, by decide +kernel, rfl, by decide +kernel, by decide +kernel⟩
abbrev s__law_round : Stmt := top 25
abbrev N__law_round : List Str := [("_law_deck_here" : Str), ("_law_web_here" : Str), ("_law_bears" : Str), ("_law_lit" : Str), ("_law_begins" : Str), ("_law_row" : Str), ("_law_seen" : Str), ("_law_house" : Str), ("_law_further" : Str), ("_law_end" : Str), ("_law_k" : Str)]
abbrev P__law_round : List Str := [("_law_deck_here" : Str), ("_law_web_here" : Str), ("_law_bears" : Str)]
theorem sc__law_round : FnScope N__law_round P__law_round (defScope s__law_round) := ⟨rfl, rfl, rfl, by decide +kernel, rfl, by decide +kernel, by decide +kernel⟩
abbrev s__law_same : Stmt := top 26
abbrev N__law_same : List Str := [("_law_found" : Str), ("_law_due" : Str), ("_law_k" : Str)]
abbrev P__law_same : List Str := [("_law_found" : Str), ("_law_due" : Str)]
theorem sc__law_same : FnScope N__law_same P__law_same (defScope s__law_same) := ⟨rfl, rfl, rfl, by decide +kernel, rfl, by decide +kernel, by decide +kernel⟩
abbrev s_law : Stmt := top 27
abbrev N_law : List Str := [("_law_script" : Str), ("_law_deck_here" : Str), ("_law_turn" : Str), ("_law_web_here" : Str), ("_law_bears" : Str), ("_law_k" : Str), ("_law_row" : Str), ("_law_many" : Str), ("_law_road_here" : Str), ("_law_together" : Str), ("_law_over" : Str), ("_law_rows" : Str)]
abbrev P_law : List Str := [("_law_script" : Str)]
theorem sc_law : FnScope N_law P_law (defScope s_law) := ⟨rfl, rfl, rfl, by decide +kernel, rfl, by decide +kernel, by decide +kernel⟩
/-! ### the rules, the written part named -/
section
variable {X : Cx} {K : PySem.W.Frag}
theorem ixL (h : X.K = K := by rfl) : IxR X (rIxL K) := by
  subst h
  exact ix_list
theorem ixT (h : X.K = K := by rfl) : IxR X (rIxT K) := by
  subst h
  exact ix_tup
theorem getL (h : X.K = K := by rfl) : PGet X (rIxL K) := by
  subst h
  exact get_list
theorem slL (h : X.K = K := by rfl) : SlR X (rSlL K) := by
  subst h
  exact sl_list
def rLenS (K : PySem.W.Frag) : List V → Hp → VK → Prop := fun xs H Q => ∃ p ys, xs = [.ref p] ∧ (SqL K H p ys ∨ SqT K H p ys) ∧ Q (.int ys.length) H
theorem lenS (h : X.K = K := by rfl) : CallR X (.builtin "len") (rLenS K) := by
  subst h
  exact call_len_seq
def rTupOf (K : PySem.W.Frag) : List V → Hp → VK → Prop := fun xs H Q => ∃ p ys, xs = [.ref p] ∧ ((SqL K H p ys ∧ ∀ l, H l = none → Q (.ref l) (upd H l (.tup ys))) ∨ (SqT K H p ys ∧ Q (.ref p) H))
theorem tupOf (h : X.K = K := by rfl) : CallR X (.type "tuple") (rTupOf K) := by
  subst h
  exact call_tuple_of
def rLstOf (K : PySem.W.Frag) : List V → Hp → VK → Prop := fun xs H Q => ∃ p ys, xs = [.ref p] ∧ (SqL K H p ys ∨ SqT K H p ys) ∧ ∀ l, H l = none → Q (.ref l) (upd H l (.lst ys))
theorem lstOf (h : X.K = K := by rfl) : CallR X (.type "list") (rLstOf K) := by
  subst h
  exact call_list_of
theorem crMin (hc : X.calm = true) (h : X.K = K := by rfl) : CallR X (.builtin "min") (rMin K) := by
  subst h
  exact cr_min hc
theorem crAll (hc : X.calm = true) (h : X.K = K := by rfl) : CallR X (.builtin "all") (rAll K) := by
  subst h
  exact cr_all hc
theorem mtIndex (h : X.K = K := by rfl) : MtR X "list.index" (rIndex K) := by
  subst h
  exact mt_index
theorem inS (h : X.K = K := by rfl) : OpR X (compareOp .In) (rIn K false) := by
  subst h
  exact op_in_seq
theorem notInS (h : X.K = K := by rfl) : OpR X (compareOp .NotIn) (rIn K true) := by
  subst h
  exact op_notIn_seq
theorem eqD (hu : X.A.units + 64 < cLine) (h : X.K = K := by rfl) : OpR X (compareOp .Eq) (rEqD K) := by
  subst h
  exact op_eqD hu
theorem neD (hu : X.A.units + 64 < cLine) (h : X.K = K := by rfl) : OpR X (compareOp .NotEq) (rNeD K) := by
  subst h
  exact op_neD hu
theorem catT (h : X.K = K := by rfl) : OpR X (binaryOp .Add) (rCatT K) := by
  subst h
  exact op_catT
theorem isi (h : X.K = K := by rfl) : CallR X (.builtin "isinstance") (rIsi K) := by
  subst h
  exact call_isi
theorem gtup {es : List Expr} {k : Nat} {t : TGs} {n : Nat} {pos : Pos} (hc : X.calm = true) (h : PGs X es t)
    (hn : (assignEach es X.env).length = n := by rfl) (hst : (assignEach es X.env).findIdx? (·.1) = none := by rfl) (hK : X.K = K := by rfl) : PG X (.Tuple es k pos) (gTup K n t) := by
  subst hK
  exact pg_tup hc h hn hst
theorem gunl {es : List Expr} {k : Nat} {t : TGs} {n : Nat} {pos : Pos} (hc : X.calm = true) (h : PGs X es t)
    (hn : (assignEach es X.env).length = n := by rfl) (hst : (assignEach es X.env).findIdx? (·.1) = none := by rfl) (hK : X.K = K := by rfl) : PG X (.Tuple es k pos) (gUnl K n t) := by
  subst hK
  exact pg_unl hc h hn hst
theorem iList_ {tg l : Expr} {tl : TE} (hl : PE X l tl) (h : X.K = K := by rfl) : PI X tg l (iList K tl) := by
  subst h
  exact pi_list hl
theorem iTup_ {tg l : Expr} {tl : TE} (hl : PE X l tl) (h : X.K = K := by rfl) : PI X tg l (iTup K tl) := by
  subst h
  exact pi_tup hl
theorem iE_ {e : Expr} {ta : TA} {p pos tpos : Pos} {elts : List Expr} {kk : Nat} (hg : Gl X "enumerate") (hm : X.mg "enumerate" = none) (ha : PA X [e] ta) (hs : starEach [e] X.env = [(false, eval e X.env)] := by rfl) (h : X.K = K := by rfl) :
    PI X (.Tuple elts kk tpos) (.Call (.Name "enumerate" p) [e] [] pos) (iE K ta) := by
  subst h
  exact pi_E hg hm ha hs
theorem iEZ_ {e e2 : Expr} {ta : TA} {p pos p2 pos2 tpos : Pos} {elts : List Expr} {kk : Nat} (hgE : Gl X "enumerate") (hmE : X.mg "enumerate" = none) (hgZ : Gl X "zip") (hmZ : X.mg "zip" = none) (ha : PA X [e, e2] ta)
    (hs : starEach [e, e2] X.env = (false, eval e X.env) :: starEach [e2] X.env := by rfl) (hpl : (backTo pos2 (starEach [e2] X.env)).any (·.1) = false := by rfl) (h : X.K = K := by rfl) :
    PI X (.Tuple elts kk tpos) (.Call (.Name "enumerate" p) [.Call (.Name "zip" p2) [e, e2] [] pos2] [] pos) (iEZ K ta) := by
  subst h
  exact pi_EZ hgE hmE hgZ hmZ ha hs hpl
theorem iZip_ {e e2 : Expr} {ta : TA} {p pos tpos : Pos} {elts : List Expr} {kk : Nat} (hg : Gl X "zip") (hm : X.mg "zip" = none) (ha : PA X [e, e2] ta)
    (hs : starEach [e, e2] X.env = (false, eval e X.env) :: starEach [e2] X.env := by rfl) (hpl : (backTo pos (starEach [e2] X.env)).any (·.1) = false := by rfl) (h : X.K = K := by rfl) :
    PI X (.Tuple elts kk tpos) (.Call (.Name "zip" p) [e, e2] [] pos) (RZ.iZipA K ta) := by
  subst h
  exact RZ.pi_zipA hg hm ha hs hpl
theorem lenSetN_ {a : Expr} {ta : TE} {p p2 q pos : Pos} (hc : X.calm = true) (hg : Gl X "len") (hm : X.mg "len" = none) (hg2 : Gl X "set") (hm2 : X.mg "set" = none) (ha : PE X a ta)
    (na : starEach [a] X.env = (false, eval a X.env) :: starEach [] X.env := by rfl) (h : X.K = K := by rfl) : PE X (.Call (.Name "len" p) [.Call (.Name "set" p2) [a] [] q] [] pos) (tLenSetN K ta) := by
  subst h
  exact pe_lenSetN hc hg hm hg2 hm2 ha na
theorem lenSetT_ {a : Expr} {ta : TE} {p p2 q pos : Pos} (hc : X.calm = true) (hu : X.A.units + 64 < cLine) (hg : Gl X "len") (hm : X.mg "len" = none) (hg2 : Gl X "set") (hm2 : X.mg "set" = none) (ha : PE X a ta)
    (na : starEach [a] X.env = (false, eval a X.env) :: starEach [] X.env := by rfl) (h : X.K = K := by rfl) : PE X (.Call (.Name "len" p) [.Call (.Name "set" p2) [a] [] q] [] pos) (tLenSetT K ta) := by
  subst h
  exact pe_lenSetT hc hu hg hm hg2 hm2 ha na
end
/-- the built-in names that the text uses -/
structure Tx (mg : Str → Option Value) : Prop where
  len : mg "len" = none
  isinstance : mg "isinstance" = none
  int_ : mg "int" = none
  bool_ : mg "bool" = none
  str_ : mg "str" = none
  tuple_ : mg "tuple" = none
  list_ : mg "list" = none
  set : mg "set" = none
  enumerate : mg "enumerate" = none
  zip : mg "zip" = none
  range : mg "range" = none
  min : mg "min" = none
  all : mg "all" = none
  abs : mg "abs" = none
/-- a def of the text -/
structure Df (K : PySem.W.Frag) (mg : Str → Option Value) (x : Str) (st : Stmt) (ps : List Str) (f : Addr) (fd : FuncData) : Prop where
  F : Fun K x x st f fd
  b : Binds K fd ps []
  g : mg x = some (.ref f)
/-! ### heaps -/
theorem _root_.L2.Same.new {H H' : Hp} {p : Addr} {o : HO} (s : Same H H') (h : H' p = none) : Same H (upd H' p o) := fun b x e => by
  have q := s b x e
  rw [upd_ne (ne_of_none q h)]
  exact q
/-- what was made since may change -/
theorem _root_.L2.Same.put {H H' : Hp} {p : Addr} {o : HO} (s : Same H H') (h : H p = none) : Same H (upd H' p o) := fun b x e => by
  rw [upd_ne (ne_of_none e h)]
  exact s b x e
theorem _root_.L2.Same.tup {H H' : Hp} {a : Addr} {xs : List V} (s : Same H H') (h : H a = some (.tup xs)) : H' a = some (.tup xs) := s _ _ h
theorem _root_.L2.Same.seqT {K : PySem.W.Frag} {H H' : Hp} {a : Addr} {xs : List V} (e : Same H H') (h : SqT K H a xs) : SqT K H' a xs := by
  rcases h with (h | ⟨o, h⟩) | h
  · exact .inl (.inl (e _ _ h))
  · exact .inl (.inr ⟨o, e _ _ h⟩)
  · exact .inr h
theorem up_other {H : Hp} {p q : Addr} {o u : HO} (h : H q = some u) (n : H p = none) : upd H p o q = some u := by
  rw [upd_ne (ne_of_none h n)]
  exact h
/-- the tuples stand as they stood -/
def Tups (H H' : Hp) : Prop := ∀ a xs, H a = some (.tup xs) → H' a = some (.tup xs)
theorem _root_.L2.Same.tups {H H' : Hp} (s : Same H H') : Tups H H' := fun a xs h => s a _ h
theorem Tups.trans {H H1 H2 : Hp} (a : Tups H H1) (b : Tups H1 H2) : Tups H H2 := fun c xs h => b c xs (a c xs h)
theorem Tups.refl (H : Hp) : Tups H H := fun _ _ h => h
theorem Tups.new {H H' : Hp} {p : Addr} {o : HO} (s : Tups H H') (h : H' p = none) : Tups H (upd H' p o) := fun b x e => by
  rw [upd_ne (ne_of_none (s b x e) h)]
  exact s b x e
theorem Tups.lst {H H' : Hp} {p : Addr} {o : HO} {xs : List V} (s : Tups H H') (h : H' p = some (.lst xs)) : Tups H (upd H' p o) := fun b x e => by
  have q := s b x e
  rw [upd_ne (ne_of q h (by intro z; cases z))]
  exact q
/-- all but the deck at d and its great cells at g stand as they stood -/
def Keep (d g : Addr) (H H' : Hp) : Prop := ∀ a o, a ≠ d → a ≠ g → H a = some o → H' a = some o
theorem Keep.refl (d g : Addr) (H : Hp) : Keep d g H H := fun _ _ _ _ h => h
theorem Keep.trans {d g : Addr} {H H1 H2 : Hp} (a : Keep d g H H1) (b : Keep d g H1 H2) : Keep d g H H2 := fun c o n1 n2 h => b c o n1 n2 (a c o n1 n2 h)
theorem _root_.L2.Same.keep {d g : Addr} {H H' : Hp} (s : Same H H') : Keep d g H H' := fun a o _ _ h => s a o h
theorem Keep.new {d g : Addr} {H H' : Hp} {p : Addr} {o : HO} (s : Keep d g H H') (h : H' p = none) : Keep d g H (upd H' p o) := s.trans (L2.Same.keep (L2.Same.new (L2.Same.refl H') h))
/-- what was made since may change -/
theorem Keep.put {d g : Addr} {H H' : Hp} {p : Addr} {o : HO} (s : Keep d g H H') (h : H p = none) : Keep d g H (upd H' p o) := fun b x n1 n2 e => by
  rw [upd_ne (ne_of_none e h)]
  exact s b x n1 n2 e
/-! ### numbers as values -/
abbrev nV (n : Nat) : V := .int (n : Int)
theorem at_nat {α : Type} {xs : List α} {j : Nat} {v : α} (h : xs[j]? = some v) : atI xs ((j : Nat) : Int) = some v := atI_nat h
theorem ixN_nat {n j : Nat} (h : j < n) : ixN n ((j : Nat) : Int) = some j := by
  unfold ixN
  rw [if_pos (Int.natCast_nonneg j), if_pos (by omega)]
  rfl
theorem map_int_at {bs : List Int} {j : Nat} (h : j < bs.length) : (bs.map V.int)[j]? = some (.int (bs.getD j 0)) := by
  rw [List.getElem?_map, List.getElem?_eq_getElem h, List.getD_eq_getElem?_getD, List.getElem?_eq_getElem h]
  rfl
theorem map_nat_at {row : List Nat} {j k : Nat} (h : row[j]? = some k) : (row.map nV)[j]? = some (nV k) := by
  rw [List.getElem?_map, h]
  rfl
theorem ints_of_nats (row : List Nat) : row.map nV = (row.map fun k => ((k : Nat) : Int)).map V.int := by
  rw [List.map_map]
  rfl
theorem small_of {n : Nat} (h : n ≤ 1000000) : n ≤ sizeLine := Nat.le_trans h (by decide)
theorem small_lt {n : Nat} (h : n ≤ 1000000) : n < sizeLine := Nat.lt_of_le_of_lt h (by decide)
/-! ### webs -/
def RoadAt (H : Hp) (d : Addr) (r : Road) : Prop := H d = some (.tup [oV r.b, oV r.e, .int r.r])
/-- the tuple of roads -/
structure RoadsAt (H : Hp) (R : Addr) (rs : List Road) : Prop where
  at_ : ∃ ds : List Addr, H R = some (.tup (ds.map V.ref)) ∧ ds.length = rs.length ∧ ∀ (i : Nat) (d : Addr) (r : Road), ds[i]? = some d → rs[i]? = some r → RoadAt H d r
/-- a web of k houses -/
structure WebAt (H : Hp) (w : Addr) (rs : List Road) (k : Nat) : Prop where
  at_ : ∃ R G T gs, H w = some (.tup [.ref R, .ref G, .ref T]) ∧ RoadsAt H R rs ∧ H G = some (.tup gs) ∧ gs.length = k
  few : rs.length ≤ 20
  some_ : 1 ≤ rs.length
  houses : k ≤ 8
  lt : ∀ r, r ∈ rs → (∀ h, r.b = some h → h < k) ∧ ∀ h, r.e = some h → h < k
theorem RoadsAt.mono {H H' : Hp} {R : Addr} {rs : List Road} (a : RoadsAt H R rs) (t : Tups H H') : RoadsAt H' R rs := by
  obtain ⟨ds, h1, h2, h3⟩ := a.at_
  exact ⟨ds, t _ _ h1, h2, fun i d r hd hr => t _ _ (h3 i d r hd hr)⟩
theorem WebAt.mono {H H' : Hp} {w : Addr} {rs : List Road} {k : Nat} (a : WebAt H w rs k) (t : Tups H H') : WebAt H' w rs k := by
  obtain ⟨R, G, T, gs, h1, h2, h3, h4⟩ := a.at_
  exact ⟨⟨R, G, T, gs, t _ _ h1, h2.mono t, t _ _ h3, h4⟩, a.few, a.some_, a.houses, a.lt⟩
section
variable {K : PySem.W.Frag} {H : Hp} {w R d : Addr} {rs : List Road} {k : Nat} {Q : VK}
theorem rd_web (a : WebAt H w rs k) (h : ∀ R, RoadsAt H R rs → Q (.ref R) H) : rIxT K (.ref w) (.int 0) H Q := by
  obtain ⟨R, G, T, gs, h1, h2, h3, h4⟩ := a.at_
  exact ⟨w, _, 0, .ref R, rfl, rfl, SqT.of h1, at_nat (j := 0) rfl, h R h2⟩
theorem rd_roads (a : RoadsAt H R rs) {i : Nat} {r : Road} (hr : rs[i]? = some r) (h : ∀ d, RoadAt H d r → Q (.ref d) H) : rIxT K (.ref R) (nV i) H Q := by
  obtain ⟨ds, h1, h2, h3⟩ := a.at_
  have hi : i < ds.length := by
    rw [h2]
    exact (List.getElem?_eq_some_iff.mp hr).1
  have e : ds[i]? = some ds[i] := List.getElem?_eq_getElem hi
  exact ⟨R, _, i, .ref ds[i], rfl, rfl, SqT.of h1, at_nat (by rw [List.getElem?_map, e]; rfl), h _ (h3 i _ r e hr)⟩
theorem rd_b {r : Road} (a : RoadAt H d r) (h : Q (oV r.b) H) : rIxT K (.ref d) (.int 0) H Q := ⟨d, _, 0, _, rfl, rfl, SqT.of a, at_nat (j := 0) rfl, h⟩
theorem rd_e {r : Road} (a : RoadAt H d r) (h : Q (oV r.e) H) : rIxT K (.ref d) (.int 1) H Q := ⟨d, _, 1, _, rfl, rfl, SqT.of a, at_nat (j := 1) rfl, h⟩
theorem rd_r {r : Road} (a : RoadAt H d r) (h : Q (.int r.r) H) : rIxT K (.ref d) (.int 2) H Q := ⟨d, _, 2, _, rfl, rfl, SqT.of a, at_nat (j := 2) rfl, h⟩
theorem len_roads (a : RoadsAt H R rs) (h : Q (nV rs.length) H) : rLenS K [.ref R] H Q := by
  obtain ⟨ds, h1, h2, h3⟩ := a.at_
  refine ⟨R, _, rfl, .inr (SqT.of h1), ?_⟩
  rw [List.length_map, h2]
  exact h
theorem RoadsAt.seq (a : RoadsAt H R rs) : ∃ xs, SqT K H R xs ∧ xs.length = rs.length ∧ ∀ (i : Nat) (x : V), xs[i]? = some x → ∃ (d : Addr) (r : Road), x = V.ref d ∧ rs[i]? = some r ∧ RoadAt H d r := by
  obtain ⟨ds, h1, h2, h3⟩ := a.at_
  refine ⟨_, SqT.of h1, by rw [List.length_map, h2], fun i x hx => ?_⟩
  rw [List.getElem?_map] at hx
  cases e : ds[i]? with
  | none =>
    rw [e] at hx
    cases hx
  | some d =>
    rw [e] at hx
    have hi : i < rs.length := by
      rw [← h2]
      exact (List.getElem?_eq_some_iff.mp e).1
    exact ⟨d, rs[i], (Option.some.inj hx).symm, List.getElem?_eq_getElem hi, h3 i d _ e (List.getElem?_eq_getElem hi)⟩
theorem rd_item {xs : List V} {a : Addr} {j : Nat} {v : V} (h : SqL K H a xs) (e : xs[j]? = some v) (q : Q v H) : rIxL K (.ref a) (nV j) H Q := ⟨a, _, j, _, rfl, rfl, h, at_nat e, q⟩
theorem rd_int {bs : List Int} {a : Addr} {j : Nat} (h : SqL K H a (bs.map V.int)) (hj : j < bs.length) (q : Q (.int (bs.getD j 0)) H) : rIxL K (.ref a) (nV j) H Q := rd_item h (map_int_at hj) q
theorem rd_last {row : List Nat} {a : Addr} {j : Nat} (h : SqL K H a (row.map nV)) (e : row.getLast? = some j) (q : Q (nV j) H) : rIxL K (.ref a) (.int (-1)) H Q := by
  refine ⟨a, _, -1, nV j, rfl, rfl, h, ?_, q⟩
  obtain ⟨r, rfl⟩ : ∃ r, row = r ++ [j] := by
    refine ⟨row.dropLast, ?_⟩
    cases row with
    | nil => cases e
    | cons x t =>
      have z : (x :: t).getLast (List.cons_ne_nil x t) = j := by
        rw [List.getLast?_eq_getLast (List.cons_ne_nil x t)] at e
        exact Option.some.inj e
      rw [← z, List.dropLast_concat_getLast]
  rw [List.map_append]
  exact atI_last _ _
end
theorem Bg_at {rs : List Road} {i : Nat} {r : Road} (h : rs[i]? = some r) : Bg rs i = r.b := by
  unfold Bg
  rw [h]
  rfl
theorem En_at {rs : List Road} {i : Nat} {r : Road} (h : rs[i]? = some r) : En rs i = r.e := by
  unfold En
  rw [h]
  rfl
theorem flat_oV (o : Option Nat) : flatV (oV o) = true := by cases o <;> rfl
theorem eq_oV (a b : Option Nat) : eqV (oV a) (oV b) = decide (a = b) := by
  cases a <;> cases b
  · exact (decide_eq_true rfl).symm
  · exact (decide_eq_false (fun z => by cases z)).symm
  · exact (decide_eq_false (fun z => by cases z)).symm
  · rename_i x y
    show ((x : Int) == (y : Int)) = _
    by_cases e : x = y
    · subst e
      simp
    · have n : ¬ ((x : Int) = (y : Int)) := by omega
      simp [e, n]
theorem dec_oV (a b : Option Nat) : decide (oV a = oV b) = decide (a = b) := by
  by_cases e : a = b
  · subst e
    simp
  · rw [decide_eq_false e]
    refine decide_eq_false fun z => e ?_
    cases a <;> cases b
    · rfl
    · cases z
    · cases z
    · rename_i x y
      have q : ((x : Int)) = (y : Int) := V.int.inj z
      rw [show x = y by omega]
theorem scal_oV (a b : Option Nat) : scal (oV a) (oV b) = true := by cases a <;> cases b <;> rfl
theorem flats_oV (os : List (Option Nat)) : (os.map oV).all flatV = true := by
  rw [List.all_map]
  exact List.all_eq_true.mpr fun o _ => flat_oV o
theorem in_oV (x : Option Nat) (os : List (Option Nat)) : inV (oV x) (os.map oV) = decide (x ∈ os) := by
  unfold inV
  rw [List.any_map]
  by_cases h : x ∈ os
  · rw [decide_eq_true h]
    exact List.any_eq_true.mpr ⟨x, h, by show eqV (oV x) (oV x) = true; rw [eq_oV]; exact decide_eq_true rfl⟩
  · rw [decide_eq_false h]
    rw [List.any_eq_false]
    intro y hy
    show ¬ eqV (oV y) (oV x) = true
    rw [eq_oV, decide_eq_true_eq]
    intro e
    exact h (e ▸ hy)
end U12

set_option Elab.async false
set_option linter.all false
set_option maxRecDepth 100000
set_option maxHeartbeats 4000000
namespace U12
open PySem PySem.Spec PyProof.Rows L2
section
variable {P : Program} {w : World} {K : PySem.W.Frag} {mg : Str → Option Value} {base : Heap}
/-! ### is_number -/
def sp_is_number : Sp := fun vs H Q _ => ∃ i lo hi : Int, vs = [.int i, .int lo, .int hi] ∧ Q (.bl (decide (lo ≤ i ∧ i ≤ hi))) H
theorem ok_is_number {f : Addr} {fd : FuncData} (D : Df K mg "is_number" s_is_number P_is_number f fd) (T : Tx mg) : FnOk P w K mg base CX0 1 f fd P_is_number sp_is_number := by
  refine D.F.ok sc_is_number (fun vs H Q E h => ?_) (fun cdv A outer s H vs Q E hr h => ?_)
  · obtain ⟨i, lo, hi, rfl, _⟩ := h
    rfl
  · obtain ⟨i, lo, hi, rfl, q⟩ := h
    refine ⟨_, pss_one (ps_ret (pe_and (pe_callB (isi (K := K)) (by rfl) T.isinstance (by decide +kernel) (pa_cons (pv 0) (pa_cons (pe_bltn (v := .ty "int") (by rfl) T.int_ (by decide +kernel) rfl) pa_nil))) (pe_and (pe_not (pe_callB (isi (K := K)) (by rfl) T.isinstance (by decide +kernel) (pa_cons (pv 0) (pa_cons (pe_bltn (v := .ty "bool") (by rfl) T.bool_ (by decide +kernel) rfl) pa_nil)))) (pe_one (pe_chain op_le op_le (pv 1) (pv 0) (pv 2)))))), ?_⟩
    refine ⟨_, rfl, _, .ty "int", _, _, true, rfl, ClsV.ty _, .base (.int i), kit_ty (a := "int") (b := "int") (by decide +kernel), true, rfl, iteT ?_⟩
    refine ⟨_, rfl, _, .ty "bool", _, _, false, rfl, ClsV.ty _, .base (.int i), kit_ty (a := "int") (b := "bool") (by decide +kernel), false, rfl, true, rfl, iteT ?_⟩
    refine ⟨_, rfl, _, rfl, lo, i, rfl, rfl, _, rfl, ite2 (fun h1 => ?_) fun h1 => ?_⟩
    · have h1 := of_decide_eq_true h1
      refine ⟨_, rfl, i, hi, rfl, rfl, ?_⟩
      have e : decide (lo ≤ i ∧ i ≤ hi) = decide (i ≤ hi) := decide_eq_decide.mpr ⟨fun z => z.2, fun z => ⟨h1, z⟩⟩
      rw [e] at q
      exact q
    · have e : decide (lo ≤ i ∧ i ≤ hi) = false := decide_eq_false fun z => h1 (decide_eq_true z.1)
      rw [e] at q
      exact q
/-! ### is_row -/
def sp_is_row (K : PySem.W.Frag) : Sp := fun vs H Q _ => ∃ (a : Addr) (xs : List V) (lo hi : Int), vs = [.ref a, .int lo, .int hi] ∧ H a = some (.tup xs) ∧ Q (.bl (decide (lo ≤ (xs.length : Int) ∧ (xs.length : Int) ≤ hi))) H
theorem ok_is_row {f : Addr} {fd : FuncData} (D : Df K mg "is_row" s_is_row P_is_row f fd) (T : Tx mg) : FnOk P w K mg base CX0 1 f fd P_is_row (sp_is_row K) := by
  refine D.F.ok sc_is_row (fun vs H Q E h => ?_) (fun cdv A outer s H vs Q E hr h => ?_)
  · obtain ⟨a, xs, lo, hi, rfl, _⟩ := h
    rfl
  · obtain ⟨a, xs, lo, hi, rfl, ha, q⟩ := h
    refine ⟨_, pss_one (ps_ret (pe_and (pe_callB (isi (K := K)) (by rfl) T.isinstance (by decide +kernel) (pa_cons (pv 0) (pa_cons (pe_bltn (v := .ty "tuple") (by rfl) T.tuple_ (by decide +kernel) rfl) pa_nil))) (pe_one (pe_chain op_le op_le (pv 1) (pe_callB (lenS (K := K)) (by rfl) T.len PySem.boot_len (pa_cons (pv 0) pa_nil)) (pv 2))))), ?_⟩
    refine ⟨_, rfl, _, .ty "tuple", _, _, true, rfl, ClsV.ty _, .base (.tup ha), kit_ty (a := "tuple") (b := "tuple") (by decide +kernel), true, rfl, iteT ?_⟩
    refine ⟨_, rfl, _, rfl, a, xs, rfl, .inr (SqT.of ha), lo, _, rfl, rfl, _, rfl, ite2 (fun h1 => ?_) fun h1 => ?_⟩
    · have h1 := of_decide_eq_true h1
      refine ⟨_, rfl, _, hi, rfl, rfl, ?_⟩
      have e : decide (lo ≤ (xs.length : Int) ∧ (xs.length : Int) ≤ hi) = decide ((xs.length : Int) ≤ hi) := decide_eq_decide.mpr ⟨fun z => z.2, fun z => ⟨h1, z⟩⟩
      rw [e] at q
      exact q
    · have e : decide (lo ≤ (xs.length : Int) ∧ (xs.length : Int) ≤ hi) = false := decide_eq_false fun z => h1 (decide_eq_true z.1)
      rw [e] at q
      exact q
/-! ### is_amount -/
def sp_is_amount : Sp := fun vs H Q _ => ∃ i : Int, vs = [.int i] ∧ Q (.bl (decide (0 ≤ i))) H
theorem ok_is_amount {f : Addr} {fd : FuncData} (D : Df K mg "is_amount" s_is_amount P_is_amount f fd) (T : Tx mg) : FnOk P w K mg base CX0 1 f fd P_is_amount sp_is_amount := by
  refine D.F.ok sc_is_amount (fun vs H Q E h => ?_) (fun cdv A outer s H vs Q E hr h => ?_)
  · obtain ⟨i, rfl, _⟩ := h
    rfl
  · obtain ⟨i, rfl, q⟩ := h
    refine ⟨_, pss_one (ps_ret (pe_and (pe_callB (isi (K := K)) (by rfl) T.isinstance (by decide +kernel) (pa_cons (pv 0) (pa_cons (pe_bltn (v := .ty "int") (by rfl) T.int_ (by decide +kernel) rfl) pa_nil))) (pe_and (pe_not (pe_callB (isi (K := K)) (by rfl) T.isinstance (by decide +kernel) (pa_cons (pv 0) (pa_cons (pe_bltn (v := .ty "bool") (by rfl) T.bool_ (by decide +kernel) rfl) pa_nil)))) (pe_one (pe_cmpR op_ge (pv 0) pe_int (nomark _)))))), ?_⟩
    refine ⟨_, rfl, _, .ty "int", _, _, true, rfl, ClsV.ty _, .base (.int i), kit_ty (a := "int") (b := "int") (by decide +kernel), true, rfl, iteT ?_⟩
    refine ⟨_, rfl, _, .ty "bool", _, _, false, rfl, ClsV.ty _, .base (.int i), kit_ty (a := "int") (b := "bool") (by decide +kernel), false, rfl, true, rfl, iteT ?_⟩
    exact ⟨_, rfl, i, 0, rfl, rfl, q⟩
/-! ### houses_of -/
def sp_houses_of : Sp := fun vs H Q _ => ∃ (a : Addr) (rs : List Road) (k : Nat), vs = [.ref a] ∧ WebAt H a rs k ∧ Q (nV k) H
theorem ok_houses_of {f : Addr} {fd : FuncData} (D : Df K mg "houses_of" s_houses_of P_houses_of f fd) (T : Tx mg) : FnOk P w K mg base CX0 1 f fd P_houses_of sp_houses_of := by
  refine D.F.ok sc_houses_of (fun vs H Q E h => ?_) (fun cdv A outer s H vs Q E hr h => ?_)
  · obtain ⟨a, rs, k, rfl, _⟩ := h
    rfl
  · obtain ⟨a, rs, k, rfl, W, q⟩ := h
    obtain ⟨R, G, Tk, gs, h1, h2, h3, h4⟩ := W.at_
    refine ⟨_, pss_one (ps_ret (pe_callB (lenS (K := K)) (by rfl) T.len PySem.boot_len (pa_cons (pe_ix (ixT (K := K)) (pv 0) pe_int (fun _ _ => rfl)) pa_nil))), ?_⟩
    refine ⟨_, rfl, a, _, 1, .ref G, rfl, rfl, SqT.of h1, at_nat (j := 1) rfl, G, gs, rfl, .inr (SqT.of h3), ?_⟩
    rw [h4]
    exact q
end
end U12

set_option Elab.async false
set_option linter.all false
set_option maxRecDepth 100000
set_option maxHeartbeats 4000000
namespace U12
open PySem PySem.Spec PyProof.Rows L2
/-! ### data -/
def oD : Option Nat → PyData
  | none => .none
  | some h => .int (h : Int)
theorem flats_oD (os : List (Option Nat)) : PyData.canLayAll0 (os.map oD) = true ∧ PyData.depthAll (os.map oD) = 0 := by
  induction os with
  | nil => exact ⟨rfl, rfl⟩
  | cons o r ih =>
    have a : PyData.canLay0 (oD o) = true := by cases o <;> rfl
    have b : PyData.depth (oD o) = 0 := by cases o <;> rfl
    refine ⟨?_, ?_⟩
    · show (PyData.canLay0 (oD o) && PyData.canLayAll0 (r.map oD)) = true
      rw [a, ih.1]
      rfl
    · show max (PyData.depth (oD o)) (PyData.depthAll (r.map oD)) = 0
      rw [b, ih.2]
      rfl
theorem flats_int (is : List Int) : PyData.canLayAll0 (is.map PyData.int) = true ∧ PyData.depthAll (is.map PyData.int) = 0 := by
  induction is with
  | nil => exact ⟨rfl, rfl⟩
  | cons i r ih =>
    refine ⟨?_, ?_⟩
    · show (PyData.canLay0 (.int i) && PyData.canLayAll0 (r.map PyData.int)) = true
      rw [ih.1]
      rfl
    · show max (PyData.depth (.int i)) (PyData.depthAll (r.map PyData.int)) = 0
      rw [ih.2]
      rfl
theorem shaped_oL (os : List (Option Nat)) : SeqAt.shaped (.list (os.map oD)) = true := by
  unfold SeqAt.shaped
  show (PyData.canLayAll0 (os.map oD) && decide (PyData.depthAll (os.map oD) + 1 ≤ 64)) = true
  rw [(flats_oD os).1, (flats_oD os).2]
  rfl
theorem shaped_iT (is : List Int) : SeqAt.shaped (.tuple (is.map PyData.int)) = true := by
  unfold SeqAt.shaped
  show (PyData.canLayAll0 (is.map PyData.int) && decide (PyData.depthAll (is.map PyData.int) + 1 ≤ 64)) = true
  rw [(flats_int is).1, (flats_int is).2]
  rfl
theorem shaped_iL (is : List Int) : SeqAt.shaped (.list (is.map PyData.int)) = true := by
  unfold SeqAt.shaped
  show (PyData.canLayAll0 (is.map PyData.int) && decide (PyData.depthAll (is.map PyData.int) + 1 ≤ 64)) = true
  rw [(flats_int is).1, (flats_int is).2]
  rfl
theorem dp_o {K : PySem.W.Frag} {H : Hp} : ∀ os : List (Option Nat), DpAll K H (os.map oV) (os.map oD)
  | [] => .nil
  | none :: r => .cons .non (dp_o r)
  | some h :: r => .cons (.int _) (dp_o r)
theorem dp_i {K : PySem.W.Frag} {H : Hp} : ∀ is : List Int, DpAll K H (is.map V.int) (is.map PyData.int)
  | [] => .nil
  | i :: r => .cons (.int i) (dp_i r)
theorem eqv_same {d : PyData} (h : SeqAt.shaped d = true) : PyData.eqv d d = true := SeqAt.eqv_refl d (SeqAt.canLay_of_shaped h)
theorem eqv_ints : ∀ (a b : List Int), PyData.eqvAll (a.map PyData.int) (b.map PyData.int) = decide (a = b)
  | [], [] => (decide_eq_true rfl).symm
  | [], y :: b => (decide_eq_false (fun z => by cases z)).symm
  | x :: a, [] => (decide_eq_false (fun z => by cases z)).symm
  | x :: a, y :: b => by
    show (PyData.eqv (.int x) (.int y) && PyData.eqvAll (a.map PyData.int) (b.map PyData.int)) = decide (x :: a = y :: b)
    rw [eqv_ints a b]
    show ((x == y) && decide (a = b)) = _
    by_cases e : x = y
    · subst e
      by_cases e2 : a = b
      · subst e2
        simp
      · have : ¬ (x :: a = x :: b) := fun z => e2 (List.cons.inj z).2
        simp [e2]
    · have : ¬ (x :: a = y :: b) := fun z => e (List.cons.inj z).1
      simp [e]
/-! ### slices -/
theorem cut_from (xs : List V) (j : Nat) : cutV xs (some (j : Int)) none = xs.drop j := by
  unfold cutV
  rw [HT.sIx_nat, HT.sIx_none]
  by_cases h : j ≤ xs.length
  · rw [Nat.min_eq_left h]
    exact List.take_of_length_le (by rw [List.length_drop]; exact Nat.le_refl _)
  · rw [Nat.min_eq_right (by omega), List.drop_of_length_le (Nat.le_refl _), List.drop_of_length_le (by omega), List.take_nil]
theorem cut_to (xs : List V) (j : Nat) : cutV xs none (some (j : Int)) = xs.take j := by
  unfold cutV
  rw [HT.sIx_nat, HT.sIx_none, List.drop_zero, Nat.sub_zero]
  by_cases h : j ≤ xs.length
  · rw [Nat.min_eq_left h]
  · rw [Nat.min_eq_right (by omega), List.take_of_length_le (Nat.le_refl _), List.take_of_length_le (by omega)]
theorem cut_but (xs : List V) : cutV xs none (some (-1)) = xs.dropLast := by
  unfold cutV
  have e : HT.sIx xs.length xs.length (some (-1)) = xs.length - 1 := by
    have q := HT.clip_eq (-1) xs.length xs.length
    rw [if_pos (by decide)] at q
    omega
  rw [e, HT.sIx_none, List.drop_zero, Nat.sub_zero, List.dropLast_eq_take]
/-! ### roads read -/
theorem RoadsAt.get {K : PySem.W.Frag} {H : Hp} {R : Addr} {rs : List Road} (a : RoadsAt H R rs) {i : Nat} (hi : i < rs.length) : ∃ (d : Addr) (r : Road) (xs : List V), rs[i]? = some r ∧ SqT K H R xs ∧ atI xs ((i : Nat) : Int) = some (.ref d) ∧ RoadAt H d r ∧ r.b = Bg rs i ∧ r.e = En rs i := by
  obtain ⟨ds, h1, h2, h3⟩ := a.at_
  have hi' : i < ds.length := by omega
  have e : ds[i]? = some ds[i] := List.getElem?_eq_getElem hi'
  have er : rs[i]? = some rs[i] := List.getElem?_eq_getElem hi
  exact ⟨ds[i], rs[i], _, er, SqT.of h1, at_nat (by rw [List.getElem?_map, e]; rfl), h3 i _ _ e er, (Bg_at er).symm, (En_at er).symm⟩
section
variable {P : Program} {w : World} {K : PySem.W.Frag} {mg : Str → Option Value} {base : Heap}
/-! ### next_roads -/
def nextsTo (rs : List Road) (bs : List Int) (x : Option Nat) (i : Nat) : List Nat := (List.range i).filter fun k => decide (Bg rs k = x) && decide (0 < bs.getD k 0)
theorem nextsTo_succ (rs : List Road) (bs : List Int) (x : Option Nat) (i : Nat) : nextsTo rs bs x (i + 1) = if Bg rs i = x ∧ 0 < bs.getD i 0 then nextsTo rs bs x i ++ [i] else nextsTo rs bs x i := by
  unfold nextsTo
  rw [List.range_succ, List.filter_append]
  by_cases h : Bg rs i = x ∧ 0 < bs.getD i 0
  · rw [if_pos h]
    congr 1
    have e : (decide (Bg rs i = x) && decide (0 < bs.getD i 0)) = true := by rw [decide_eq_true h.1, decide_eq_true h.2]; rfl
    rw [List.filter_cons_of_pos (p := fun k => decide (Bg rs k = x) && decide (0 < bs.getD k 0)) e, List.filter_nil]
  · rw [if_neg h]
    have e : ([i].filter fun k => decide (Bg rs k = x) && decide (0 < bs.getD k 0)) = [] := by
      rw [List.filter_eq_nil_iff]
      intro k hk
      rw [List.mem_singleton.mp hk]
      simp only [Bool.and_eq_true, decide_eq_true_eq]
      exact h
    rw [e, List.append_nil]
theorem nextsTo_len (rs : List Road) (bs : List Int) (x : Option Nat) (i : Nat) : (nextsTo rs bs x i).length ≤ i := by
  have q := List.length_filter_le (fun k => decide (Bg rs k = x) && decide (0 < bs.getD k 0)) (List.range i)
  rwa [List.length_range] at q
def sp_next_roads (K : PySem.W.Frag) : Sp := fun vs H Q _ => ∃ (a b : Addr) (rs : List Road) (k : Nat) (bs : List Int) (x : Option Nat), vs = [.ref a, .ref b, oV x] ∧ WebAt H a rs k ∧ H b = some (.lst (bs.map V.int)) ∧ bs.length = rs.length ∧
  ∀ H' p, Same H H' → H p = none → H' p = some (.lst ((nextsTo rs bs x rs.length).map nV)) → Q (.ref p) H'
theorem ok_next_roads {f : Addr} {fd : FuncData} (D : Df K mg "next_roads" s_next_roads P_next_roads f fd) (T : Tx mg) : FnOk P w K mg base CX0 1 f fd P_next_roads (sp_next_roads K) := by
  refine D.F.ok sc_next_roads (fun vs H Q E h => ?_) (fun cdv A outer s H vs Q E hr h => ?_)
  · obtain ⟨a, b, rs, k, bs, x, rfl, _⟩ := h
    rfl
  · obtain ⟨a, b, rs, k, bs, x, rfl, W, hb, hbl, q⟩ := h
    obtain ⟨R, G, Tk, gs, hw, hR, hG, hk⟩ := W.at_
    obtain ⟨xs, hxs, hxl, hxa⟩ := hR.seq (K := K)
    refine ⟨_, pss_one (ps_ret (pe_lc (own := [(("number" : Str), 3), (("road" : Str), 4)]) (g := gTup K 2 (gCons (gName 3) (gCons (gName 4) gNil))) rfl sc_next_roads.nd (iE_ (K := K) (by rfl) T.enumerate (pa_cons (pe_ix (ixT (K := K)) (pv 0) pe_int (fun _ _ => rfl)) pa_nil)) (blkOk_by (own := [(("number" : Str), 3), (("road" : Str), 4)]) (N := N_next_roads) (sc := defScope s_next_roads) (by decide +kernel)) (fun _ _ _ _ _ => (gtup (K := K) rfl (pgs_cons (pg_name (i := 3) sc_next_roads.nd rfl (.inl rfl)) (pgs_cons (pg_name (i := 4) sc_next_roads.nd rfl (.inl rfl)) pgs_nil)))) (fun _ _ _ _ _ => (pts_one (PW.pt (pw_and (pt_cmpR op_eq (pe_ix (ixT (K := K)) (pv 4) pe_int (fun _ _ => rfl)) (pv 2) (nomark _)) (pw_and1 (pt_cmpR op_gt (pe_ix (ixL (K := K)) (pv 1) (pv 3) (fun _ _ => rfl)) pe_int (nomark _))))))) (fun _ _ _ _ _ => (pv 3)))), ?_⟩
    refine ⟨.ref a, rfl, a, _, 0, .ref R, rfl, rfl, SqT.of hw, at_nat (j := 0) rfl, R, xs, rfl, hxs, fun D hD => ?_⟩
    refine lc_it (walk_E (xs := xs)) (fun i H' => Same H H' ∧ H' D = some (.lst ((nextsTo rs bs x i).map nV))) ⟨Same.new (Same.refl H) hD, upd_same⟩ (fun i H' _ h => L2.Same.seqT h.1 hxs) (fun i v H1 H2 hi hp hy => ?_) (fun H' hp => ?_)
    · obtain ⟨hs, hacc⟩ := hp
      obtain ⟨Tp, y0, y, rfl, hT, rfl, e0, e1⟩ := hy
      have e0 : some (V.int (i : Int)) = some y0 := e0
      cases e0
      have e1 : xs[i]? = some y := e1
      obtain ⟨d, r, rfl, hr_, hd⟩ := hxa i y e1
      have hi' : i < rs.length := by omega
      have sT : Same H (upd H1 Tp (.tup [.int (i : Int), .ref d])) := Same.new hs hT
      have hd' : RoadAt (upd H1 Tp (.tup [.int (i : Int), .ref d])) d r := sT _ _ hd
      have hDT : upd H1 Tp (.tup [.int (i : Int), .ref d]) D = some (.lst ((nextsTo rs bs x i).map nV)) := up_other hacc hT
      have hb' : upd H1 Tp (.tup [.int (i : Int), .ref d]) b = some (.lst (bs.map V.int)) := sT _ _ hb
      refine ⟨Tp, _, rfl, SqT.of upd_same, rfl, _, _, rfl, _, _, rfl, rfl, rfl, ?_⟩
      refine ⟨.ref d, rfl, d, _, 0, oV r.b, rfl, rfl, SqT.of hd', at_nat (j := 0) rfl, oV x, rfl, scal_oV _ _, _, rfl, ?_⟩
      rw [dec_oV, ← Bg_at hr_, nextsTo_succ]
      by_cases c1 : Bg rs i = x
      · rw [decide_eq_true c1]
        refine iteT ⟨.ref b, rfl, nV i, rfl, b, _, (i : Int), .int (bs.getD i 0), rfl, rfl, SqL.of hb', at_nat (map_int_at (by omega)), bs.getD i 0, 0, rfl, rfl, _, rfl, ?_⟩
        by_cases c2 : 0 < bs.getD i 0
        · rw [decide_eq_true c2, if_pos ⟨c1, c2⟩]
          refine iteT ⟨nV i, rfl, _, hDT, ?_, Same.put sT hD, ?_⟩
          · rw [List.length_map]
            exact Nat.lt_of_le_of_lt (nextsTo_len rs bs x i) (small_lt (Nat.le_trans (Nat.le_of_lt hi') (Nat.le_trans W.few (by decide))))
          · rw [upd_same, List.map_append]
            rfl
        · rw [decide_eq_false c2, if_neg (fun z => c2 z.2)]
          exact iteF ⟨sT, hDT⟩
      · rw [decide_eq_false c1, if_neg (fun z => c1 z.1)]
        exact iteF (iteF ⟨sT, hDT⟩)
    · rw [hxl] at hp
      exact q H' D hp.1 hD hp.2
end
end U12

set_option Elab.async false
set_option linter.all false
set_option maxRecDepth 100000
set_option maxHeartbeats 4000000
namespace U12
open PySem PySem.Spec PyProof.Rows L2
theorem flats_nat (row : List Nat) : (row.map nV).all flatV = true := by
  rw [List.all_map]
  exact List.all_eq_true.mpr fun o _ => rfl
theorem first_at {k : Nat} {row : List Nat} (h : k ∈ row) : ∃ pre q, row = pre ++ k :: q ∧ k ∉ pre := List.eq_append_cons_of_mem h
section
variable {P : Program} {w : World} {K : PySem.W.Frag} {mg : Str → Option Value} {base : Heap}
/-! ### turned_round -/
def sp_turned_round (K : PySem.W.Frag) : Sp := fun vs H Q _ => ∃ (a : Addr) (row : List Nat), vs = [.ref a] ∧ H a = some (.lst (row.map nV)) ∧ row ≠ [] ∧ row.length ≤ 1000 ∧
  ∀ H' p pre k q, Same H H' → H p = none → H' p = some (.tup ((k :: q ++ pre).map nV)) → row = pre ++ k :: q → (∀ j, j ∈ row → k ≤ j) → Q (.ref p) H'
theorem ok_turned_round {f : Addr} {fd : FuncData} (D : Df K mg "turned_round" s_turned_round P_turned_round f fd) (T : Tx mg) : FnOk P w K mg base CX0 1 f fd P_turned_round (sp_turned_round K) := by
  refine D.F.ok sc_turned_round (fun vs H Q E h => ?_) (fun cdv A outer s H vs Q E hr h => ?_)
  · obtain ⟨a, row, rfl, _⟩ := h
    rfl
  · obtain ⟨a, row, rfl, ha, hne, hlen, q⟩ := h
    refine ⟨_, pss_cons (ps_set (i := 1) sc_turned_round.nd rfl (.inl rfl) (pe_bm PySem.F.plainAttrs_list PySem.F.slot_list_index PySem.F.type_list_index (mtIndex (K := K)) (pv 0) (pa_cons (pe_callB (crMin (K := K) rfl) (by rfl) T.min (by decide +kernel) (pa_cons (pv 0) pa_nil)) pa_nil)))
        (pss_one (ps_ret (pe_callTy (tupOf (K := K)) (by rfl) T.tuple_ (by decide +kernel) (pa_cons (pe_op op_cat (pe_slice (slL (K := K)) (pv 0) (po_some (pv 1)) po_none) (pe_slice (slL (K := K)) (pv 0) po_none (po_some (pv 1)))) pa_nil)))), ?_⟩
    have hpos : 0 < row.length := List.length_pos_iff.mpr hne
    refine ⟨.ref a, rfl, .inl ⟨rfl, _, SqL.of ha⟩, .ref a, rfl, a, row.map (fun k => ((k : Nat) : Int)), rfl, by rw [← ints_of_nats]; exact SqL.of ha, by rw [List.length_map]; exact hpos, fun m hm hle => ?_⟩
    obtain ⟨k, hk, rfl⟩ := List.mem_map.mp hm
    have hmin : ∀ j, j ∈ row → k ≤ j := fun j hj => by
      have z := hle _ (List.mem_map.mpr ⟨j, hj, rfl⟩)
      omega
    obtain ⟨pre, r, rfl, hno⟩ := first_at hk
    have hat : ((pre ++ k :: r).map nV)[pre.length]? = some (nV k) := by
      rw [List.getElem?_map, List.getElem?_append_right (Nat.le_refl _), Nat.sub_self]
      rfl
    refine ⟨a, _, nV k, pre.length, nV k, rfl, rfl, SqL.of ha, rfl, flats_nat _, hat, ?_, ?_, ?_⟩
    · show ((k : Int) == (k : Int)) = true
      exact beq_self_eq_true _
    · intro m z' hm' hz
      rw [List.getElem?_map, List.getElem?_append_left hm'] at hz
      rw [List.getElem?_eq_getElem hm'] at hz
      have hz : nV pre[m] = z' := Option.some.inj hz
      subst hz
      have hne2 : pre[m] ≠ k := fun e => hno (e ▸ List.getElem_mem hm')
      show ((pre[m] : Int) == (k : Int)) = false
      exact beq_eq_false_iff_ne.mpr (by omega)
    -- tuple(row[at:] + row[:at])
    refine ⟨.ref a, rfl, _, rfl, (pre.length : Int), rfl, a, _, rfl, SqL.of ha, fun p1 hp1 => ?_⟩
    have ha1 := up_other (o := .lst (cutV ((pre ++ k :: r).map nV) (some (pre.length : Int)) none)) ha hp1
    refine ⟨.ref a, rfl, _, rfl, (pre.length : Int), rfl, a, _, rfl, SqL.of ha1, fun p2 hp2 => ?_⟩
    have hp12 : p1 ≠ p2 := ne_of_none (upd_same (H := H) (a := p1)) hp2
    rw [cut_from] at hp2 ⊢
    rw [cut_to]
    rw [show ((pre ++ k :: r).map nV).drop pre.length = (k :: r).map nV by rw [← List.map_drop, List.drop_left], show ((pre ++ k :: r).map nV).take pre.length = pre.map nV by rw [← List.map_take, List.take_left]] at *
    have e1 : upd (upd H p1 (.lst ((k :: r).map nV))) p2 (.lst (pre.map nV)) p1 = some (.lst ((k :: r).map nV)) := by
      rw [upd_ne hp12, upd_same]
    have hl2 : (k :: r).length + pre.length ≤ 1000 := by
      rw [List.length_append] at hlen
      omega
    refine ⟨p1, p2, _, _, rfl, rfl, e1, upd_same, by rw [List.length_map, List.length_map]; exact small_of (Nat.le_trans hl2 (by decide)), fun p3 hp3 => ?_⟩
    refine ⟨p3, _, rfl, .inl ⟨SqL.of upd_same, fun p4 hp4 => ?_⟩⟩
    have s1 : Same H (upd H p1 (.lst ((k :: r).map nV))) := (Same.refl H).new hp1
    have s2 := s1.new hp2 (o := .lst (pre.map nV))
    have s3 := s2.new hp3 (o := .lst ((k :: r).map nV ++ pre.map nV))
    have s4 := s3.new hp4 (o := .tup ((k :: r).map nV ++ pre.map nV))
    exact q _ p4 pre k r s4 (s3.free hp4) (by rw [upd_same, List.map_append]) rfl hmin
/-! ### is_chain -/
def sp_is_chain (K : PySem.W.Frag) : Sp := fun vs H Q _ => ∃ (a b : Addr) (rs : List Road) (k : Nat) (row : List Nat), vs = [.ref a, .ref b] ∧ WebAt H a rs k ∧ H b = some (.tup (row.map nV)) ∧ (∀ j, j ∈ row → j < rs.length) ∧ row.length ≤ 1000 ∧
  (row.map (Bg rs)).tail = (row.map (En rs)).dropLast ∧ none ∉ (row.map (Bg rs)).tail ∧ (row.map (Bg rs)).Nodup ∧ ∀ H', Same H H' → Q (.bl true) H'
theorem ok_is_chain {f : Addr} {fd : FuncData} (D : Df K mg "is_chain" s_is_chain P_is_chain f fd) (T : Tx mg) : FnOk P w K mg base CX0 1 f fd P_is_chain (sp_is_chain K) := by
  refine D.F.ok sc_is_chain (fun vs H Q E h => ?_) (fun cdv A outer s H vs Q E hr h => ?_)
  · obtain ⟨a, b, rs, k, row, rfl, _⟩ := h
    rfl
  · obtain ⟨a, b, rs, k, row, rfl, W, hb, hlt, hlen, hlinks, hnn, hnd, q⟩ := h
    obtain ⟨R, G, Tk, gs, hw, hR, hG, hk⟩ := W.at_
    refine ⟨_, pss_cons (ps_setLc (i := 2) (own := [(("number" : Str), 4)]) (g := gName 4) (tt := tYes) rfl sc_is_chain.nd rfl rfl (sw_true rfl rfl rfl (by decide +kernel)) (iTup_ (K := K) (pv 1)) (blkOk_by (own := [(("number" : Str), 4)]) (N := N_is_chain) (sc := defScope s_is_chain) (by decide +kernel)) (fun _ _ _ _ _ => (pg_name (i := 4) sc_is_chain.nd rfl (.inl rfl))) (fun _ _ _ _ _ => pts_nil) (fun _ _ _ _ _ => (pe_ix (ixT (K := K)) (pe_ix (ixT (K := K)) (pe_ix (ixT (K := K)) (pv 0) pe_int (fun _ _ => rfl)) (pv 4) (fun _ _ => rfl)) pe_int (fun _ _ => rfl))))
        (pss_cons (ps_setLc (i := 3) (own := [(("number" : Str), 4)]) (g := gName 4) (tt := tYes) rfl sc_is_chain.nd rfl rfl (sw_true rfl rfl rfl (by decide +kernel)) (iTup_ (K := K) (pv 1)) (blkOk_by (own := [(("number" : Str), 4)]) (N := N_is_chain) (sc := defScope s_is_chain) (by decide +kernel)) (fun _ _ _ _ _ => (pg_name (i := 4) sc_is_chain.nd rfl (.inl rfl))) (fun _ _ _ _ _ => pts_nil) (fun _ _ _ _ _ => (pe_ix (ixT (K := K)) (pe_ix (ixT (K := K)) (pe_ix (ixT (K := K)) (pv 0) pe_int (fun _ _ => rfl)) (pv 4) (fun _ _ => rfl)) pe_int (fun _ _ => rfl))))
        (pss_one (ps_ret (pe_and (pe_cmpR (eqD (K := K) hr.units) (pe_slice (slL (K := K)) (pv 2) (po_some pe_int) po_none) (pe_slice (slL (K := K)) (pv 3) po_none (po_some (pe_un un_neg pe_int))) (nomark _)) (pe_and (pe_cmpR (notInS (K := K)) pe_non (pe_slice (slL (K := K)) (pv 2) (po_some pe_int) po_none) (by rfl)) (pe_one (pe_cmpR op_eq (lenSetN_ (K := K) rfl (by rfl) T.len (by rfl) T.set (pv 2)) (pe_callB (lenS (K := K)) (by rfl) T.len PySem.boot_len (pa_cons (pv 2) pa_nil)) (nomark _)))))))), ?_⟩
    have row_at : ∀ (i : Nat) (x : V), (row.map nV)[i]? = some x → ∃ j, x = nV j ∧ row[i]? = some j ∧ j < rs.length := fun i x hx => by
      rw [List.getElem?_map] at hx
      cases e : row[i]? with
      | none =>
        rw [e] at hx
        cases hx
      | some j =>
        rw [e] at hx
        exact ⟨j, (Option.some.inj hx).symm, rfl, hlt j (List.mem_of_getElem? e)⟩
    have take1 : ∀ (g : Nat → Option Nat) (i j : Nat), row[i]? = some j → ((row.take (i + 1)).map g).map oV = ((row.take i).map g).map oV ++ [oV (g j)] := fun g i j e => by
      rw [List.take_add_one, e, List.map_append, List.map_append]
      rfl
    have tlen : ∀ (g : Nat → Option Nat) (i : Nat), (((row.take i).map g).map oV).length < sizeLine := fun g i => by
      rw [List.length_map, List.length_map, List.length_take]
      exact Nat.lt_of_le_of_lt (Nat.min_le_right _ _) (small_lt (Nat.le_trans hlen (by decide)))
    -- begins
    refine ⟨.ref b, rfl, b, rfl, ⟨_, SqT.of hb⟩, fun D1 hD1 => ?_⟩
    refine lc_tup (K := K) (a := b) (xs := row.map nV) (fun i H' => Same H H' ∧ H' D1 = some (.lst (((row.take i).map (Bg rs)).map oV))) ⟨(Same.refl H).new hD1, upd_same⟩ (fun i H' _ h => SqT.of (h.1 _ _ hb)) (fun i x H1 hx hp => ?_) (fun H1 hp => ?_)
    · obtain ⟨hs, hacc⟩ := hp
      obtain ⟨j, rfl, hj, hjl⟩ := row_at i x hx
      obtain ⟨d, r, ys, hr_, hys, hyd, hd, eb, ee⟩ := (hR.mono hs.tups).get (K := K) hjl
      refine ⟨rfl, .ref a, rfl, a, _, 0, .ref R, rfl, rfl, SqT.of (hs _ _ hw), at_nat (j := 0) rfl, nV j, rfl, R, ys, _, .ref d, rfl, rfl, hys, hyd, d, _, 0, _, rfl, rfl, SqT.of hd, at_nat (j := 0) rfl, _, hacc, tlen _ i, hs.put hD1, ?_⟩
      rw [upd_same, take1 (Bg rs) i j hj, eb]
    rw [List.length_map, List.take_length] at hp
    obtain ⟨s1, hB⟩ := hp
    -- ends
    refine ⟨.ref b, rfl, b, rfl, ⟨_, SqT.of (s1 _ _ hb)⟩, fun D2 hD2 => ?_⟩
    refine lc_tup (K := K) (a := b) (xs := row.map nV) (fun i H' => Same H1 H' ∧ H' D2 = some (.lst (((row.take i).map (En rs)).map oV))) ⟨(Same.refl H1).new hD2, upd_same⟩ (fun i H' _ h => SqT.of (h.1 _ _ (s1 _ _ hb))) (fun i x H2 hx hp => ?_) (fun H2 hp => ?_)
    · obtain ⟨hs, hacc⟩ := hp
      have hs0 := s1.trans hs
      obtain ⟨j, rfl, hj, hjl⟩ := row_at i x hx
      obtain ⟨d, r, ys, hr_, hys, hyd, hd, eb, ee⟩ := (hR.mono hs0.tups).get (K := K) hjl
      refine ⟨rfl, .ref a, rfl, a, _, 0, .ref R, rfl, rfl, SqT.of (hs0 _ _ hw), at_nat (j := 0) rfl, nV j, rfl, R, ys, _, .ref d, rfl, rfl, hys, hyd, d, _, 1, _, rfl, rfl, SqT.of hd, at_nat (j := 1) rfl, _, hacc, tlen _ i, hs.put hD2, ?_⟩
      rw [upd_same, take1 (En rs) i j hj, ee]
    rw [List.length_map, List.take_length] at hp
    obtain ⟨s2, hE⟩ := hp
    have hB2 := s2 _ _ hB
    -- begins[1:] == ends[:-1]
    refine ⟨.ref D1, rfl, 1, rfl, D1, _, rfl, SqL.of hB2, fun p1 hp1 => ?_⟩
    have hE3 := up_other (o := .lst (cutV (((row.map (Bg rs))).map oV) (some 1) none)) hE hp1
    refine ⟨.ref D2, rfl, 1, rfl, -1, rfl, D2, _, rfl, SqL.of hE3, fun p2 hp2 => ?_⟩
    have e1 : cutV ((row.map (Bg rs)).map oV) (some 1) none = ((row.map (Bg rs)).tail).map oV := by
      rw [show (1 : Int) = ((1 : Nat) : Int) from rfl, cut_from, ← List.map_drop, List.drop_one]
    rw [e1] at hp2 hE3 ⊢
    have e2 : cutV ((row.map (En rs)).map oV) none (some (-1)) = ((row.map (Bg rs)).tail).map oV := by
      rw [cut_but, hlinks, List.map_dropLast]
    rw [e2]
    have s3 := (s1.trans s2).new hp1 (o := .lst (((row.map (Bg rs)).tail).map oV))
    have s4 := s3.new hp2 (o := .lst (((row.map (Bg rs)).tail).map oV))
    have h12 : p1 ≠ p2 := ne_of_none (upd_same (H := H2) (a := p1)) hp2
    refine ⟨_, _, .lst (SqL.of (by rw [upd_ne h12, upd_same])) (dp_o _), .lst (SqL.of upd_same) (dp_o _), shaped_oL _, shaped_oL _, _, rfl, ?_⟩
    rw [eqv_same (shaped_oL _)]
    refine iteT ?_
    -- None not in begins[1:]
    have hB4 := up_other (o := .lst (((row.map (Bg rs)).tail).map oV)) (up_other (o := .lst (((row.map (Bg rs)).tail).map oV)) hB2 hp1) hp2
    refine ⟨.ref D1, rfl, 1, rfl, D1, _, rfl, SqL.of hB4, fun p3 hp3 => ?_⟩
    have e3 : cutV ((row.map (Bg rs)).map oV) (some 1) none = ((row.map (Bg rs)).tail).map oV := by
      rw [show (1 : Int) = ((1 : Nat) : Int) from rfl, cut_from, ← List.map_drop, List.drop_one]
    rw [e3]
    refine ⟨p3, _, rfl, .inl (SqL.of upd_same), rfl, flats_oV _, true, ?_, iteT ?_⟩
    · show V.bl (!inV (oV none) _) = _
      rw [in_oV, decide_eq_false hnn]
      rfl
    -- len(set(begins)) == len(begins)
    have hB5 := up_other (o := .lst (((row.map (Bg rs)).tail).map oV)) hB4 hp3
    have s5 := s4.new hp3 (o := .lst (((row.map (Bg rs)).tail).map oV))
    refine ⟨.ref D1, rfl, D1, row.map (Bg rs), rfl, SqL.of hB5, hnd, by rw [List.length_map]; exact hlen, .ref D1, rfl, D1, _, rfl, .inl (SqL.of hB5), rfl, ?_⟩
    have e4 : decide (V.int (((row.map (Bg rs)).length : Nat) : Int) = V.int ((((row.map (Bg rs)).map oV).length : Nat) : Int)) = true := decide_eq_true (by simp only [List.length_map])
    have q5 := q _ s5
    rw [← e4] at q5
    exact q5
end
end U12

set_option Elab.async false
set_option linter.all false
set_option maxRecDepth 100000
set_option maxHeartbeats 4000000
namespace U12
open PySem PySem.Spec PyProof.Rows L2
theorem trues (n : Nat) : ((List.replicate n true).all id) = true := by
  induction n with
  | zero => rfl
  | succ n ih =>
    rw [List.replicate_succ, List.all_cons, ih]
    rfl
theorem trues_snoc (n : Nat) : (List.replicate (n + 1) true).map V.bl = (List.replicate n true).map V.bl ++ [V.bl true] := by
  rw [List.replicate_succ', List.map_append]
  rfl
section
variable {P : Program} {w : World} {K : PySem.W.Frag} {mg : Str → Option Value} {base : Heap}
/-! ### is_way -/
def sp_is_way (K : PySem.W.Frag) : Sp := fun vs H Q _ => ∃ (a b : Addr) (rs : List Road) (k : Nat) (row : List Nat), vs = [.ref a, .ref b] ∧ WebAt H a rs k ∧ H b = some (.tup (row.map nV)) ∧ WayOk rs row ∧ ∀ H', Same H H' → Q (.bl true) H'
theorem ok_is_way {f f1 f2 f3 : Addr} {fd fd1 fd2 fd3 : FuncData} (D : Df K mg "is_way" s_is_way P_is_way f fd) (T : Tx mg) (D_is_row : Df K mg "is_row" s_is_row P_is_row f1 fd1) (D_is_number : Df K mg "is_number" s_is_number P_is_number f2 fd2) (D_is_chain : Df K mg "is_chain" s_is_chain P_is_chain f3 fd3) :
    FnOk P w K mg base CX0 2 f fd P_is_way (sp_is_way K) := by
  have G_is_row : FnOk P w K mg base CX0 1 f1 fd1 P_is_row (sp_is_row K) := ok_is_row D_is_row T
  have G_is_number : FnOk P w K mg base CX0 1 f2 fd2 P_is_number sp_is_number := ok_is_number D_is_number T
  have G_is_chain : FnOk P w K mg base CX0 1 f3 fd3 P_is_chain (sp_is_chain K) := ok_is_chain D_is_chain T
  refine D.F.ok sc_is_way (fun vs H Q E h => ?_) (fun cdv A outer s H vs Q E hr h => ?_)
  · obtain ⟨a, b, rs, k, row, rfl, _⟩ := h
    rfl
  · obtain ⟨a, b, rs, k, row, rfl, W, hb, hway, q⟩ := h
    obtain ⟨x, c, hmin⟩ := hway.cyc
    obtain ⟨R, G, Tk, gs, hw, hR, hG, hk⟩ := W.at_
    obtain ⟨xs, hxs, hxl, hxa⟩ := hR.seq (K := K)
    have hlen := c.len
    have h20 := W.few
    refine ⟨_, pss_cons (ps_if (PW.pt (pw_or (pt_not (pt_val (pe_call G_is_row (hr.mono (by decide)) (by rfl) D_is_row.g D_is_row.F.kp D_is_row.b .nil pass0 (pa_cons (pv 1) (pa_cons pe_int (pa_cons (pe_callB (lenS (K := K)) (by rfl) T.len PySem.boot_len (pa_cons (pe_ix (ixT (K := K)) (pv 0) pe_int (fun _ _ => rfl)) pa_nil)) pa_nil)))))) (pw_or1 (pt_not (pt_val (pe_callB (crAll (K := K) rfl) (by rfl) T.all (by decide +kernel) (pa_cons (pe_lc (own := [(("one" : Str), 4)]) (g := gName 4) (tt := tYes) rfl sc_is_way.nd (iTup_ (K := K) (pv 1)) (blkOk_by (own := [(("one" : Str), 4)]) (N := N_is_way) (sc := defScope s_is_way) (by decide +kernel)) (fun _ _ _ _ _ => (pg_name (i := 4) sc_is_way.nd rfl (.inl rfl))) (fun _ _ _ _ _ => pts_nil) (fun _ _ _ _ _ => (pe_call G_is_number (hr.mono (by decide)) (by rfl) D_is_number.g D_is_number.F.kp D_is_number.b .nil pass0 (pa_cons (pv 4) (pa_cons pe_int (pa_cons (pe_op op_sub (pe_callB (lenS (K := K)) (by rfl) T.len PySem.boot_len (pa_cons (pe_ix (ixT (K := K)) (pv 0) pe_int (fun _ _ => rfl)) pa_nil)) pe_int) pa_nil)))))) pa_nil)))))))
        (pss_one (ps_ret pe_bl))
        pss_nil)
        (pss_cons (ps_if (pt_not (pt_val (pe_call G_is_chain (hr.mono (by decide)) (by rfl) D_is_chain.g D_is_chain.F.kp D_is_chain.b .nil pass0 (pa_cons (pv 0) (pa_cons (pv 1) pa_nil)))))
        (pss_one (ps_ret pe_bl))
        pss_nil)
        (pss_cons (ps_par (i := 2) (j := 3) rfl sc_is_way.nd rfl rfl (by decide) rfl rfl (pa_cons (pe_ix (ixT (K := K)) (pe_ix (ixT (K := K)) (pe_ix (ixT (K := K)) (pv 0) pe_int (fun _ _ => rfl)) (pe_ix (ixT (K := K)) (pv 1) pe_int (fun _ _ => rfl)) (fun _ _ => rfl)) pe_int (fun _ _ => rfl)) (pa_cons (pe_ix (ixT (K := K)) (pe_ix (ixT (K := K)) (pe_ix (ixT (K := K)) (pv 0) pe_int (fun _ _ => rfl)) (pe_ix (ixT (K := K)) (pv 1) (pe_un un_neg pe_int) (fun _ _ => rfl)) (fun _ _ => rfl)) pe_int (fun _ _ => rfl)) pa_nil)) (by rfl))
        (pss_cons (ps_if (pt_cmpR op_isN (pv 2) pe_non (nomark _))
        (pss_one (ps_ret (pe_cmpR op_isN (pv 3) pe_non (nomark _))))
        pss_nil)
        (pss_one (ps_ret (pe_and (pe_cmpR op_eq (pv 2) (pv 3) (nomark _)) (pe_one (pe_cmpR op_eq (pe_ix (ixT (K := K)) (pv 1) pe_int (fun _ _ => rfl)) (pe_callB (crMinT (K := K) rfl) (by rfl) T.min (by decide +kernel) (pa_cons (pv 1) pa_nil)) (nomark _))))))))), ?_⟩
    obtain ⟨k0, r0, rfl⟩ : ∃ k0 r0, row = k0 :: r0 := by
      cases row with
      | nil => exact absurd rfl c.ne
      | cons k0 r0 => exact ⟨k0, r0, rfl⟩
    -- is_row
    refine ⟨.ref b, rfl, .ref a, rfl, a, _, 0, .ref R, rfl, rfl, SqT.of hw, at_nat (j := 0) rfl, R, xs, rfl, .inr hxs, b, _, 1, (xs.length : Int), rfl, hb, _, rfl, ?_⟩
    have e1 : decide ((1 : Int) ≤ ((((k0 :: r0).map nV).length : Nat) : Int) ∧ ((((k0 :: r0).map nV).length : Nat) : Int) ≤ ((xs.length : Nat) : Int)) = true := decide_eq_true (by
      rw [List.length_map, hxl]
      simp only [List.length_cons] at hlen ⊢
      omega)
    rw [e1]
    refine iteF ?_
    -- all numbers
    refine ⟨.ref b, rfl, b, rfl, ⟨_, SqT.of hb⟩, fun D1 hD1 => ?_⟩
    refine lc_tup (K := K) (a := b) (xs := (k0 :: r0).map nV) (fun i H' => Same H H' ∧ H' D1 = some (.lst ((List.replicate i true).map V.bl))) ⟨(Same.refl H).new hD1, upd_same⟩ (fun i H' _ h => SqT.of (h.1 _ _ hb)) (fun i v H1 hx hp => ?_) (fun H1 hp => ?_)
    · obtain ⟨hs, hacc⟩ := hp
      rw [List.getElem?_map] at hx
      cases ej : (k0 :: r0)[i]? with
      | none =>
        rw [ej] at hx
        cases hx
      | some j =>
        rw [ej] at hx
        have hx : nV j = v := Option.some.inj hx
        subst hx
        have hj : j < rs.length := c.lt j (List.mem_of_getElem? ej)
        have hi : i < (k0 :: r0).length := (List.getElem?_eq_some_iff.mp ej).1
        refine ⟨rfl, nV j, rfl, .ref a, rfl, a, _, 0, .ref R, rfl, rfl, SqT.of (hs _ _ hw), at_nat (j := 0) rfl, R, xs, rfl, .inr (hs.seqT hxs), _, _, rfl, rfl, (j : Int), 0, ((xs.length : Int) - 1), rfl, ?_⟩
        have e2 : decide ((0 : Int) ≤ (j : Int) ∧ (j : Int) ≤ (xs.length : Int) - 1) = true := decide_eq_true (by omega)
        rw [e2]
        refine ⟨_, hacc, ?_, hs.put hD1, ?_⟩
        · rw [List.length_map, List.length_replicate]
          exact small_lt (by omega)
        · rw [upd_same, trues_snoc]
    obtain ⟨s1, hB⟩ := hp
    refine ⟨D1, _, rfl, SqL.of hB, _, rfl, ?_⟩
    rw [trues]
    refine iteF ?_
    -- is_chain
    have W1 := W.mono s1.tups
    refine ⟨.ref a, rfl, .ref b, rfl, a, b, rs, k, k0 :: r0, rfl, W1, s1 _ _ hb, c.lt, Nat.le_trans hlen (Nat.le_trans h20 (by decide)), chain_links c.ch, c.nn, c.nd, fun H2 s2 => ?_⟩
    refine ⟨_, rfl, iteF ?_⟩
    have s12 := s1.trans s2
    -- begin, end
    obtain ⟨kl, hkl⟩ : ∃ kl, (k0 :: r0).getLast? = some kl := ⟨_, List.getLast?_eq_getLast (List.cons_ne_nil k0 r0)⟩
    have hkm : kl ∈ k0 :: r0 := List.mem_of_getLast? hkl
    obtain ⟨d0, rd0, ys0, hr0, hys0, hyd0, hd0, eb0, ee0⟩ := (hR.mono s12.tups).get (K := K) (c.lt k0 List.mem_cons_self)
    obtain ⟨dl, rdl, ysl, hrl, hysl, hydl, hdl, ebl, eel⟩ := (hR.mono s12.tups).get (K := K) (c.lt kl hkm)
    have lastAt : atI ((k0 :: r0).map nV) (-1) = some (nV kl) := by
      obtain ⟨r, e⟩ : ∃ r, k0 :: r0 = r ++ [kl] := ⟨(k0 :: r0).dropLast, by
        have z : (k0 :: r0).getLast (List.cons_ne_nil k0 r0) = kl := by
          rw [List.getLast?_eq_getLast (List.cons_ne_nil k0 r0)] at hkl
          exact Option.some.inj hkl
        rw [← z, List.dropLast_concat_getLast]⟩
      rw [e, List.map_append]
      exact atI_last _ _
    refine ⟨.ref a, rfl, a, _, 0, .ref R, rfl, rfl, SqT.of (s12 _ _ hw), at_nat (j := 0) rfl, .ref b, rfl, b, _, 0, nV k0, rfl, rfl, SqT.of (s12 _ _ hb), at_nat (j := 0) rfl, R, ys0, _, .ref d0, rfl, rfl, hys0, hyd0, d0, _, 0, oV rd0.b, rfl, rfl, SqT.of hd0, at_nat (j := 0) rfl, ?_⟩
    refine ⟨.ref a, rfl, a, _, 0, .ref R, rfl, rfl, SqT.of (s12 _ _ hw), at_nat (j := 0) rfl, .ref b, rfl, 1, rfl, b, _, -1, nV kl, rfl, rfl, SqT.of (s12 _ _ hb), lastAt, R, ysl, _, .ref dl, rfl, rfl, hysl, hydl, dl, _, 1, oV rdl.e, rfl, rfl, SqT.of hdl, at_nat (j := 1) rfl, _, _, rfl, ?_⟩
    have eB : rd0.b = x := eb0.trans (chain_head c.ch)
    have eE : rdl.e = x := eel.trans (chain_last c.ch hkl)
    rw [eB, eE]
    have q2 := q H2 s12
    cases x with
    | none =>
      refine ⟨_, rfl, rfl, _, rfl, ?_⟩
      exact ⟨_, rfl, rfl, q2⟩
    | some hh =>
      refine ⟨_, rfl, rfl, _, rfl, ?_⟩
      refine ⟨_, rfl, _, rfl, scal_oV (some hh) (some hh), _, rfl, ?_⟩
      rw [decide_eq_true (show oV (some hh) = oV (some hh) from rfl)]
      refine iteT ?_
      have hmin2 := hmin (by intro z; cases z) k0 rfl
      refine ⟨.ref b, rfl, b, _, 0, nV k0, rfl, rfl, SqT.of (s12 _ _ hb), at_nat (j := 0) rfl, .ref b, rfl, b, (k0 :: r0).map (fun k => ((k : Nat) : Int)), rfl, by rw [← ints_of_nats]; exact SqT.of (s12 _ _ hb), by rw [List.length_map]; exact Nat.succ_pos _, fun m hm hle => ⟨rfl, ?_⟩⟩
      have em : m = (k0 : Int) := by
        obtain ⟨j, hj, rfl⟩ := List.mem_map.mp hm
        have a1 := hle (k0 : Int) (List.mem_map.mpr ⟨k0, List.mem_cons_self, rfl⟩)
        have a2 := hmin2 j hj
        omega
      subst em
      rw [decide_eq_true (show nV k0 = V.int (k0 : Int) from rfl)]
      exact q2
/-! ### is_bundle_row -/
/-- a row and how much it bears -/
def RowAt (H : Hp) (a : Addr) (p : List Nat × Int) : Prop := ∃ t, H a = some (.tup [.ref t, .int p.2]) ∧ H t = some (.tup (p.1.map nV))
def sp_is_bundle_row (K : PySem.W.Frag) : Sp := fun vs H Q _ => ∃ (a b : Addr) (rs : List Road) (k : Nat) (p : List Nat × Int), vs = [.ref a, .ref b] ∧ WebAt H a rs k ∧ RowAt H b p ∧ WayOk rs p.1 ∧ 0 < p.2 ∧ ∀ H', Same H H' → Q (.bl true) H'
theorem ok_is_bundle_row {f f1 f2 : Addr} {fd fd1 fd2 : FuncData} (D : Df K mg "is_bundle_row" s_is_bundle_row P_is_bundle_row f fd) (T : Tx mg) (D_is_row : Df K mg "is_row" s_is_row P_is_row f1 fd1) (D_is_way : Df K mg "is_way" s_is_way P_is_way f2 fd2)
    (G_is_row : FnOk P w K mg base CX0 1 f1 fd1 P_is_row (sp_is_row K)) (G_is_way : FnOk P w K mg base CX0 2 f2 fd2 P_is_way (sp_is_way K)) : FnOk P w K mg base CX0 3 f fd P_is_bundle_row (sp_is_bundle_row K) := by
  refine D.F.ok sc_is_bundle_row (fun vs H Q E h => ?_) (fun cdv A outer s H vs Q E hr h => ?_)
  · obtain ⟨a, b, rs, k, p, rfl, _⟩ := h
    rfl
  · obtain ⟨a, b, rs, k, p, rfl, W, ⟨t, hb, ht⟩, hway, hpos, q⟩ := h
    refine ⟨_, pss_cons (ps_if (PW.pt (pw_or (pt_not (pt_val (pe_call G_is_row (hr.mono (by decide)) (by rfl) D_is_row.g D_is_row.F.kp D_is_row.b .nil pass0 (pa_cons (pv 1) (pa_cons pe_int (pa_cons pe_int pa_nil)))))) (pw_or1 (pt_not (pt_val (pe_call G_is_way (hr.mono (by decide)) (by rfl) D_is_way.g D_is_way.F.kp D_is_way.b .nil pass0 (pa_cons (pv 0) (pa_cons (pe_ix (ixT (K := K)) (pv 1) pe_int (fun _ _ => rfl)) pa_nil))))))))
        (pss_one (ps_ret pe_bl))
        pss_nil)
        (pss_one (ps_ret (pe_and (pe_callB (isi (K := K)) (by rfl) T.isinstance (by decide +kernel) (pa_cons (pe_ix (ixT (K := K)) (pv 1) pe_int (fun _ _ => rfl)) (pa_cons (pe_bltn (v := .ty "int") (by rfl) T.int_ (by decide +kernel) rfl) pa_nil))) (pe_and (pe_not (pe_callB (isi (K := K)) (by rfl) T.isinstance (by decide +kernel) (pa_cons (pe_ix (ixT (K := K)) (pv 1) pe_int (fun _ _ => rfl)) (pa_cons (pe_bltn (v := .ty "bool") (by rfl) T.bool_ (by decide +kernel) rfl) pa_nil)))) (pe_one (pe_cmpR op_gt (pe_ix (ixT (K := K)) (pv 1) pe_int (fun _ _ => rfl)) pe_int (nomark _))))))), ?_⟩
    refine ⟨.ref b, rfl, b, _, 2, 2, rfl, hb, _, rfl, iteF ?_⟩
    refine ⟨.ref a, rfl, .ref b, rfl, b, _, 0, .ref t, rfl, rfl, SqT.of hb, at_nat (j := 0) rfl, a, t, rs, k, p.1, rfl, W, ht, hway, fun H1 s1 => ⟨_, rfl, iteF ?_⟩⟩
    have hb1 := s1 _ _ hb
    refine ⟨.ref b, rfl, b, _, 1, .int p.2, rfl, rfl, SqT.of hb1, at_nat (j := 1) rfl, _, .ty "int", _, _, true, rfl, ClsV.ty _, .base (.int _), kit_ty (a := "int") (b := "int") (by decide +kernel), true, rfl, iteT ?_⟩
    refine ⟨.ref b, rfl, b, _, 1, .int p.2, rfl, rfl, SqT.of hb1, at_nat (j := 1) rfl, _, .ty "bool", _, _, false, rfl, ClsV.ty _, .base (.int _), kit_ty (a := "int") (b := "bool") (by decide +kernel), false, rfl, true, rfl, iteT ?_⟩
    refine ⟨.ref b, rfl, b, _, 1, .int p.2, rfl, rfl, SqT.of hb1, at_nat (j := 1) rfl, _, _, rfl, rfl, ?_⟩
    show Q (V.bl (decide (0 < p.2))) H1
    rw [decide_eq_true hpos]
    exact q H1 s1
end
end U12

set_option Elab.async false
set_option linter.all false
set_option maxRecDepth 100000
set_option maxHeartbeats 4000000
namespace U12
open PySem PySem.Spec PyProof.Rows L2
/-- rows, told by a tuple -/
def RowsAt (H : Hp) (as : List Addr) (rows : Rows) : Prop := as.length = rows.length ∧ ∀ (i : Nat) (a : Addr) (p : List Nat × Int), as[i]? = some a → rows[i]? = some p → RowAt H a p
theorem RowAt.mono {H H' : Hp} {a : Addr} {p : List Nat × Int} (r : RowAt H a p) (t : Tups H H') : RowAt H' a p := by
  obtain ⟨b, h1, h2⟩ := r
  exact ⟨b, t _ _ h1, t _ _ h2⟩
theorem RowsAt.mono {H H' : Hp} {as : List Addr} {rows : Rows} (r : RowsAt H as rows) (t : Tups H H') : RowsAt H' as rows := ⟨r.1, fun i a p h1 h2 => (r.2 i a p h1 h2).mono t⟩
theorem RowsAt.get {H : Hp} {as : List Addr} {rows : Rows} (r : RowsAt H as rows) {i : Nat} {v : V} (h : (as.map V.ref)[i]? = some v) : ∃ a p, v = .ref a ∧ rows[i]? = some p ∧ p ∈ rows ∧ RowAt H a p := by
  rw [List.getElem?_map] at h
  cases e : as[i]? with
  | none =>
    rw [e] at h
    cases h
  | some a =>
    rw [e] at h
    have hi : i < rows.length := by
      rw [← r.1]
      exact (List.getElem?_eq_some_iff.mp e).1
    exact ⟨a, rows[i], (Option.some.inj h).symm, List.getElem?_eq_getElem hi, List.getElem_mem hi, r.2 i a _ e (List.getElem?_eq_getElem hi)⟩
theorem RowsAt.nil (H : Hp) : RowsAt H [] [] := ⟨rfl, fun i a p h _ => by simp at h⟩
theorem RowsAt.app {H : Hp} {as bs : List Addr} {r1 r2 : Rows} (h1 : RowsAt H as r1) (h2 : RowsAt H bs r2) : RowsAt H (as ++ bs) (r1 ++ r2) := by
  refine ⟨by rw [List.length_append, List.length_append, h1.1, h2.1], fun i a p ha hp => ?_⟩
  by_cases c : i < as.length
  · rw [List.getElem?_append_left c] at ha
    rw [List.getElem?_append_left (by rw [← h1.1]; exact c)] at hp
    exact h1.2 i a p ha hp
  · rw [List.getElem?_append_right (by omega)] at ha
    rw [List.getElem?_append_right (by rw [← h1.1]; omega), ← h1.1] at hp
    exact h2.2 _ a p ha hp
theorem foundOf_take {m i : Nat} {rows : Rows} {p : List Nat × Int} (h : rows[i]? = some p) : foundOf m (rows.take (i + 1)) = addAll (foundOf m (rows.take i)) p.1 p.2 := by
  rw [List.take_add_one, h]
  exact foundOf_snoc m _ p
theorem addAll_take {bs : List Int} {row : List Nat} {c : Int} {i k : Nat} (h : row[i]? = some k) : addAll bs (row.take (i + 1)) c = addAt (addAll bs (row.take i) c) k c := by
  rw [List.take_add_one, h]
  exact addAll_snoc bs k _ c
theorem map_set_int (bs : List Int) (k : Nat) (c : Int) : (bs.map V.int).set k (.int (bs.getD k 0 + c)) = (addAt bs k c).map V.int := by
  unfold addAt
  rw [List.map_set]
section
variable {P : Program} {w : World} {K : PySem.W.Frag} {mg : Str → Option Value} {base : Heap}
/-! ### bundle_holds -/
def sp_bundle_holds (K : PySem.W.Frag) : Sp := fun vs H Q _ => ∃ (a b t : Addr) (rs : List Road) (k : Nat) (stream : List Int) (as : List Addr) (rows : Rows), vs = [.ref a, .ref b, .ref t] ∧ WebAt H a rs k ∧ H b = some (.tup (stream.map V.int)) ∧ H t = some (.tup (as.map V.ref)) ∧ RowsAt H as rows ∧
  (∀ p, p ∈ rows → WayOk rs p.1 ∧ 0 < p.2) ∧ rows.length < 64 ∧ (rows.length ≤ rs.length → foundOf rs.length rows = stream → (rows.map (·.1)).Nodup) ∧
  ∀ H', Same H H' → Q (.bl (decide (rows.length ≤ rs.length) && decide (foundOf rs.length rows = stream))) H'
theorem ok_bundle_holds {f f1 f2 : Addr} {fd fd1 fd2 : FuncData} (D : Df K mg "bundle_holds" s_bundle_holds P_bundle_holds f fd) (T : Tx mg) (D_is_row : Df K mg "is_row" s_is_row P_is_row f1 fd1) (D_is_bundle_row : Df K mg "is_bundle_row" s_is_bundle_row P_is_bundle_row f2 fd2)
    (G_is_row : FnOk P w K mg base CX0 1 f1 fd1 P_is_row (sp_is_row K)) (G_is_bundle_row : FnOk P w K mg base CX0 3 f2 fd2 P_is_bundle_row (sp_is_bundle_row K)) : FnOk P w K mg base CX0 4 f fd P_bundle_holds (sp_bundle_holds K) := by
  refine D.F.ok sc_bundle_holds (fun vs H Q E h => ?_) (fun cdv A outer s H vs Q E hr h => ?_)
  · obtain ⟨a, b, t, rs, k, stream, as, rows, rfl, _⟩ := h
    rfl
  · obtain ⟨a, b, t, rs, k, stream, as, rows, rfl, W, hb, ht, hrows, hways, hfew, hnd, q⟩ := h
    obtain ⟨R, G, Tk, gs, hw, hR, hG, hk⟩ := W.at_
    obtain ⟨xs, hxs, hxl, hxa⟩ := hR.seq (K := K)
    have h20 := W.few
    have lts := Taken.lts hways
    refine ⟨_, pss_cons (ps_if (PW.pt (pw_or (pt_not (pt_val (pe_call G_is_row (hr.mono (by decide)) (by rfl) D_is_row.g D_is_row.F.kp D_is_row.b .nil pass0 (pa_cons (pv 2) (pa_cons pe_int (pa_cons (pe_callB (lenS (K := K)) (by rfl) T.len PySem.boot_len (pa_cons (pe_ix (ixT (K := K)) (pv 0) pe_int (fun _ _ => rfl)) pa_nil)) pa_nil)))))) (pw_or1 (pt_not (pt_val (pe_callB (crAll (K := K) rfl) (by rfl) T.all (by decide +kernel) (pa_cons (pe_lc (own := [(("row" : Str), 8)]) (g := gName 8) (tt := tYes) rfl sc_bundle_holds.nd (iTup_ (K := K) (pv 2)) (blkOk_by (own := [(("row" : Str), 8)]) (N := N_bundle_holds) (sc := defScope s_bundle_holds) (by decide +kernel)) (fun _ _ _ _ _ => (pg_name (i := 8) sc_bundle_holds.nd rfl (.inl rfl))) (fun _ _ _ _ _ => pts_nil) (fun _ _ _ _ _ => (pe_call G_is_bundle_row (hr.mono (by decide)) (by rfl) D_is_bundle_row.g D_is_bundle_row.F.kp D_is_bundle_row.b .nil pass0 (pa_cons (pv 0) (pa_cons (pv 8) pa_nil))))) pa_nil)))))))
        (pss_one (ps_ret pe_bl))
        pss_nil)
        (pss_cons (ps_set (i := 3) sc_bundle_holds.nd rfl (.inl rfl) (pe_op op_rep (pe_lst (pa_cons pe_int pa_nil)) (pe_callB (lenS (K := K)) (by rfl) T.len PySem.boot_len (pa_cons (pe_ix (ixT (K := K)) (pv 0) pe_int (fun _ _ => rfl)) pa_nil))))
        (pss_cons (ps_for PassesOwn.never rfl (iTup_ (K := K) (pv 2)) (gtup (K := K) rfl (pgs_cons (pg_name (i := 4) sc_bundle_holds.nd rfl (.inl rfl)) (pgs_cons (pg_name (i := 5) sc_bundle_holds.nd rfl (.inl rfl)) pgs_nil)))
        (pss_one (ps_for PassesOwn.never rfl (iTup_ (K := K) (pv 4)) (pg_name (i := 6) sc_bundle_holds.nd rfl (.inl rfl))
        (pss_one (ps_augS (pv 3) (pv 6) (getL (K := K)) (pv 5) ip_add set_list)))))
        (pss_cons (ps_setLc (i := 7) (own := [(("roads" : Str), 4), (("many" : Str), 5)]) (g := gTup K 2 (gCons (gName 4) (gCons (gName 5) gNil))) (tt := tYes) rfl sc_bundle_holds.nd rfl rfl (sw_true rfl rfl rfl (by decide +kernel)) (iTup_ (K := K) (pv 2)) (blkOk_by (own := [(("roads" : Str), 4), (("many" : Str), 5)]) (N := N_bundle_holds) (sc := defScope s_bundle_holds) (by decide +kernel)) (fun _ _ _ _ _ => (gtup (K := K) rfl (pgs_cons (pg_name (i := 4) sc_bundle_holds.nd rfl (.inl rfl)) (pgs_cons (pg_name (i := 5) sc_bundle_holds.nd rfl (.inl rfl)) pgs_nil)))) (fun _ _ _ _ _ => pts_nil) (fun _ _ _ _ _ => (pv 4)))
        (pss_one (ps_ret (pe_and (pe_cmpR (eqD (K := K) hr.units) (pe_callTy (tupOf (K := K)) (by rfl) T.tuple_ (by decide +kernel) (pa_cons (pv 3) pa_nil)) (pv 1) (nomark _)) (pe_one (pe_cmpR op_eq (lenSetT_ (K := K) rfl hr.units (by rfl) T.len (by rfl) T.set (pv 7)) (pe_callB (lenS (K := K)) (by rfl) T.len PySem.boot_len (pa_cons (pv 7) pa_nil)) (nomark _))))))))), ?_⟩
    -- is_row
    refine ⟨.ref t, rfl, .ref a, rfl, a, _, 0, .ref R, rfl, rfl, SqT.of hw, at_nat (j := 0) rfl, R, xs, rfl, .inr hxs, t, _, 0, (xs.length : Int), rfl, ht, _, rfl, ?_⟩
    have e1 : decide ((0 : Int) ≤ (((as.map V.ref).length : Nat) : Int) ∧ (((as.map V.ref).length : Nat) : Int) ≤ ((xs.length : Nat) : Int)) = decide (rows.length ≤ rs.length) := decide_eq_decide.mpr (by
      rw [List.length_map, hxl, hrows.1]
      constructor
      · intro z
        omega
      · intro z
        omega)
    rw [e1]
    by_cases hle : rows.length ≤ rs.length
    · rw [decide_eq_true hle]
      rw [decide_eq_true hle, Bool.true_and] at q
      refine iteF ?_
      -- all rows
      refine ⟨.ref t, rfl, t, rfl, ⟨_, SqT.of ht⟩, fun D1 hD1 => ?_⟩
      refine lc_tup (K := K) (a := t) (xs := as.map V.ref) (fun i H' => Same H H' ∧ H' D1 = some (.lst ((List.replicate i true).map V.bl))) ⟨(Same.refl H).new hD1, upd_same⟩ (fun i H' _ h => SqT.of (h.1 _ _ ht)) (fun i v H1 hx hp => ?_) (fun H1 hp => ?_)
      · obtain ⟨hs, hacc⟩ := hp
        obtain ⟨ra, p, rfl, hp, hpm, hra⟩ := (hrows.mono hs.tups).get hx
        have hi : i < (as.map V.ref).length := (List.getElem?_eq_some_iff.mp hx).1
        rw [List.length_map, hrows.1] at hi
        refine ⟨rfl, .ref a, rfl, .ref ra, rfl, a, ra, rs, k, p, rfl, W.mono hs.tups, hra, (hways p hpm).1, (hways p hpm).2, fun H2 s2 => ⟨_, s2 _ _ hacc, ?_, (hs.trans s2).put hD1, ?_⟩⟩
        · rw [List.length_map, List.length_replicate]
          exact small_lt (by omega)
        · rw [upd_same, trues_snoc]
      obtain ⟨s1, hB⟩ := hp
      refine ⟨D1, _, rfl, SqL.of hB, _, rfl, ?_⟩
      rw [trues]
      refine iteF ?_
      -- found = [0] * len(web[0])
      refine ⟨by show 1 ≤ sizeLine; decide, fun p1 hp1 => ?_⟩
      have s2 := s1.new hp1 (o := .lst [V.int 0])
      refine ⟨.ref a, rfl, a, _, 0, .ref R, rfl, rfl, SqT.of (s2 _ _ hw), at_nat (j := 0) rfl, R, xs, rfl, .inr (s2.seqT hxs), p1, (xs.length : Int), [V.int 0], rfl, rfl, upd_same, by omega, by omega, ?_, fun F hF => ?_⟩
      · show 1 * ((xs.length : Int)).toNat ≤ sizeLine
        exact small_of (by omega)
      have e2 : (List.replicate ((xs.length : Int)).toNat [V.int 0]).flatten = (foundOf rs.length []).map V.int := by
        show (List.replicate ((xs.length : Int)).toNat [V.int 0]).flatten = (List.replicate rs.length (0 : Int)).map V.int
        rw [Int.toNat_natCast, hxl]
        clear hF hle e1 lts
        generalize rs.length = m
        induction m with
        | zero => rfl
        | succ m ih =>
          rw [List.replicate_succ, List.replicate_succ, List.flatten_cons, ih]
          rfl
      rw [e2]
      have s3 := s2.new hF (o := .lst ((foundOf rs.length []).map V.int))
      have hF0 : H F = none := s2.free hF
      -- the rows
      refine ⟨.ref t, rfl, t, rfl, ⟨_, SqT.of (s3 _ _ ht)⟩, for_tup (K := K) (a := t) (xs := as.map V.ref) (fun i σ H' => ∃ y4 y5 y6, σ = [some (.ref a), some (.ref b), some (.ref t), some (.ref F), y4, y5, y6, none, none] ∧ Same H H' ∧ H' F = some (.lst ((foundOf rs.length (rows.take i)).map V.int)))
        ⟨none, none, none, rfl, s3, upd_same⟩ (fun i σ H' _ h => by
          obtain ⟨_, _, _, _, hs, _⟩ := h
          exact SqT.of (hs _ _ ht)) (fun i v σ H2 hx hp => ?_) (fun σ H2 hp => ?_)⟩
      · obtain ⟨y4, y5, y6, rfl, hs, hacc⟩ := hp
        obtain ⟨ra, p, rfl, hp, hpm, ⟨rt, hra, hrt⟩⟩ := (hrows.mono hs.tups).get hx
        have plt := lts p hpm
        refine ⟨ra, _, rfl, SqT.of hra, rfl, .ref rt, _, rfl, .int p.2, _, rfl, rfl, ?_⟩
        refine ⟨.ref rt, rfl, rt, rfl, ⟨_, SqT.of hrt⟩, for_tup (K := K) (a := rt) (xs := p.1.map nV) (fun j σ H' => ∃ y6, σ = [some (.ref a), some (.ref b), some (.ref t), some (.ref F), some (.ref rt), some (.int p.2), y6, none, none] ∧ Same H H' ∧ H' rt = some (.tup (p.1.map nV)) ∧ H' F = some (.lst ((addAll (foundOf rs.length (rows.take i)) (p.1.take j) p.2).map V.int)))
          ⟨y6, rfl, hs, hrt, hacc⟩ (fun j σ H' _ h => by
            obtain ⟨_, _, _, h, _⟩ := h
            exact SqT.of h) (fun j v σ H3 hv hp3 => ?_) (fun σ H3 hp3 => ?_)⟩
        · obtain ⟨y6', rfl, hs3, hrt3, hacc3⟩ := hp3
          rw [List.getElem?_map] at hv
          cases en : p.1[j]? with
          | none =>
            rw [en] at hv
            cases hv
          | some n =>
            rw [en] at hv
            have hv : nV n = v := Option.some.inj hv
            subst hv
            have hn : n < (addAll (foundOf rs.length (rows.take i)) (p.1.take j) p.2).length := by
              rw [addAll_length, foundOf_length]
              exact plt n (List.mem_of_getElem? en)
            refine ⟨.ref F, rfl, nV n, rfl, F, _, n, .int _, rfl, rfl, SqL.of hacc3, at_nat (map_int_at hn), .int p.2, rfl, _, _, rfl, rfl, F, _, n, n, rfl, rfl, hacc3, ixN_nat (by rw [List.length_map]; exact hn), ?_⟩
            refine ⟨some (nV n), rfl, hs3.put hF0, ?_, ?_⟩
            · rw [upd_ne (ne_of hrt3 hacc3 (by intro z; cases z))]
              exact hrt3
            · rw [upd_same, map_set_int, addAll_take en]
        · obtain ⟨y6', rfl, hs3, hrt3, hacc3⟩ := hp3
          rw [List.length_map, List.take_length] at hacc3
          refine ⟨_, _, _, rfl, hs3, ?_⟩
          rw [foundOf_take hp]
          exact hacc3
      obtain ⟨y4, y5, y6, rfl, hs, hacc⟩ := hp
      rw [List.length_map, hrows.1, List.take_length] at hacc
      -- ways
      refine ⟨.ref t, rfl, t, rfl, ⟨_, SqT.of (hs _ _ ht)⟩, fun D2 hD2 => ?_⟩
      refine lc_tup (K := K) (a := t) (xs := as.map V.ref) (fun i H' => Same H2 H' ∧ ∃ ks : List (Addr × List Int), H' D2 = some (.lst (ks.map fun p => V.ref p.1)) ∧ (∀ p ∈ ks, H2 p.1 = some (.tup (p.2.map V.int))) ∧ ks.map (·.2) = (rows.take i).map (fun p => p.1.map fun k => ((k : Nat) : Int)))
        ⟨(Same.refl H2).new hD2, [], upd_same, (fun p hp => nomatch hp), rfl⟩ (fun i H' _ h => SqT.of (h.1 _ _ (hs _ _ ht))) (fun i v H3 hx hp => ?_) (fun H3 hp => ?_)
      · obtain ⟨hs3, ks, hacc3, hks, hke⟩ := hp
        obtain ⟨ra, p, rfl, hp, hpm, ⟨rt, hra, hrt⟩⟩ := (hrows.mono hs.tups).get hx
        have hra3 := hs3 _ _ hra
        refine ⟨ra, _, rfl, SqT.of hra3, rfl, .ref rt, _, rfl, .int p.2, _, rfl, rfl, rfl, .ref rt, rfl, _, hacc3, ?_, hs3.put hD2, ks ++ [(rt, p.1.map fun k => ((k : Nat) : Int))], ?_, fun z hz => ?_, ?_⟩
        · rw [List.length_map]
          have el := congrArg List.length hke
          rw [List.length_map, List.length_map, List.length_take] at el
          exact small_lt (by omega)
        · rw [upd_same, List.map_append]
          rfl
        · rcases List.mem_append.mp hz with hz | hz
          · exact hks z hz
          · rw [List.mem_singleton.mp hz]
            show H2 rt = some (.tup ((p.1.map fun k => ((k : Nat) : Int)).map V.int))
            rw [← ints_of_nats]
            exact hrt
        · rw [List.map_append, hke, List.take_add_one, hp, List.map_append]
          rfl
      obtain ⟨hs3, ks, hacc3, hks, hke⟩ := hp
      rw [List.length_map, hrows.1, List.take_length] at hke
      have s4 := hs.trans hs3
      have hF3 := hs3 _ _ hacc
      -- tuple(found) == stream
      refine ⟨.ref F, rfl, F, _, rfl, .inl ⟨SqL.of hF3, fun p2 hp2 => ?_⟩⟩
      have s5 := s4.new hp2 (o := .tup ((foundOf rs.length rows).map V.int))
      refine ⟨.ref b, rfl, _, _, .tup (SqT.of upd_same) (dp_i _), .tup (SqT.of (s5 _ _ hb)) (dp_i _), shaped_iT _, shaped_iT _, _, rfl, ?_⟩
      have e3 : PyData.eqv (.tuple ((foundOf rs.length rows).map PyData.int)) (.tuple (stream.map PyData.int)) = decide (foundOf rs.length rows = stream) := eqv_ints _ _
      rw [e3]
      by_cases hsum : foundOf rs.length rows = stream
      · rw [decide_eq_true hsum]
        rw [decide_eq_true hsum] at q
        refine iteT ?_
        have hD5 := up_other (o := .tup ((foundOf rs.length rows).map V.int)) hacc3 hp2
        have hnd2 : (ks.map (·.2)).Nodup := by
          rw [hke]
          have z := hnd hle hsum
          have e4 : rows.map (fun p => p.1.map fun k => ((k : Nat) : Int)) = (rows.map (·.1)).map (fun r : List Nat => r.map fun k => ((k : Nat) : Int)) := by
            rw [List.map_map]
            rfl
          rw [e4]
          refine List.Pairwise.map _ (fun r1 r2 hne e => hne ?_) z
          exact (List.map_inj_right (fun x y (h : ((x : Nat) : Int) = ((y : Nat) : Int)) => by omega)).mp e
        have hkl : ks.length = rows.length := by
          have el := congrArg List.length hke
          rwa [List.length_map, List.length_map] at el
        refine ⟨.ref D2, rfl, D2, ks, rfl, SqL.of hD5, fun p hp => SqT.of (up_other (hs3 _ _ (hks p hp)) hp2), hnd2, by omega, .ref D2, rfl, D2, _, rfl, .inl (SqL.of hD5), rfl, ?_⟩
        have e4 : decide (V.int ((ks.length : Nat) : Int) = V.int (((ks.map fun p => V.ref p.1).length : Nat) : Int)) = true := decide_eq_true (by simp only [List.length_map])
        have q5 := q _ s5
        rw [← e4] at q5
        exact q5
      · rw [decide_eq_false hsum]
        rw [decide_eq_false hsum] at q
        exact iteF (q _ s5)
    · rw [decide_eq_false hle]
      rw [decide_eq_false hle, Bool.false_and] at q
      exact iteT (iteT (q H (Same.refl H)))
end
end U12

set_option Elab.async false
set_option linter.all false
set_option maxRecDepth 100000
set_option maxHeartbeats 4000000
namespace U12
open PySem PySem.Spec PyProof.Rows L2
def flist (g : Nat → Option Nat) (bs : List Int) (k i : Nat) : List Int := (List.range k).map fun h => fl g bs (some h) i
theorem flist_length (g : Nat → Option Nat) (bs : List Int) (k i : Nat) : (flist g bs k i).length = k := by
  unfold flist
  rw [List.length_map, List.length_range]
theorem flist_getD {g : Nat → Option Nat} {bs : List Int} {k i h : Nat} (hh : h < k) : (flist g bs k i).getD h 0 = fl g bs (some h) i := by
  unfold flist
  rw [List.getD_eq_getElem?_getD, List.getElem?_map, List.getElem?_range hh]
  rfl
theorem flist_zero (g : Nat → Option Nat) (bs : List Int) (k : Nat) : flist g bs k 0 = List.replicate k 0 := by
  refine ext_getD (by rw [flist_length, List.length_replicate]) fun j hj => ?_
  rw [flist_length] at hj
  rw [flist_getD hj, List.getD_eq_getElem?_getD, List.getElem?_replicate, if_pos hj]
  rfl
theorem flist_none {g : Nat → Option Nat} {bs : List Int} {k i : Nat} (h : g i = none) : flist g bs k (i + 1) = flist g bs k i := by
  refine ext_getD (by rw [flist_length, flist_length]) fun j hj => ?_
  rw [flist_length] at hj
  rw [flist_getD hj, flist_getD hj, fl_succ, h, if_neg (by intro z; cases z)]
  omega
theorem flist_some {g : Nat → Option Nat} {bs : List Int} {k i h : Nat} (e : g i = some h) (hh : h < k) : addAt (flist g bs k i) h (bs.getD i 0) = flist g bs k (i + 1) := by
  refine ext_getD (by rw [addAt_length, flist_length, flist_length]) fun j hj => ?_
  rw [addAt_length, flist_length] at hj
  rw [addAt_getD _ _ (by rw [flist_length]; exact hh), flist_getD hj, flist_getD hj, fl_succ, e]
  by_cases c : h = j
  · subst c
    simp
  · rw [if_neg c, if_neg (fun z => c (Option.some.inj z))]
theorem flist_bal {rs : List Road} {bs : List Int} (b : Bal rs bs) (k : Nat) : flist (Bg rs) bs k rs.length = flist (En rs) bs k rs.length := by
  refine ext_getD (by rw [flist_length, flist_length]) fun j hj => ?_
  rw [flist_length] at hj
  rw [flist_getD hj, flist_getD hj]
  exact b (some j)
theorem rep_flat (x : V) (m : Nat) : (List.replicate m [x]).flatten = List.replicate m x := by
  induction m with
  | zero => rfl
  | succ m ih =>
    rw [List.replicate_succ, List.replicate_succ, List.flatten_cons, ih]
    rfl
def Rm (rs : List Road) (i : Nat) : Int := ((rs[i]?).map Road.r).getD 0
theorem Rm_at {rs : List Road} {i : Nat} {r : Road} (h : rs[i]? = some r) : Rm rs i = r.r := by
  unfold Rm
  rw [h]
  rfl
theorem seq_at {K : PySem.W.Frag} {H : Hp} {R : Addr} {rs : List Road} (a : RoadsAt H R rs) : ∃ xs, SqT K H R xs ∧ xs.length = rs.length ∧ ∀ (i : Nat) (x : V), xs[i]? = some x → ∃ (d : Addr) (r : Road), x = V.ref d ∧ rs[i]? = some r ∧ RoadAt H d r := a.seq
section
variable {P : Program} {w : World} {K : PySem.W.Frag} {mg : Str → Option Value} {base : Heap}
/-! ### sums -/
def sp_sums (K : PySem.W.Frag) : Sp := fun vs H Q _ => ∃ (a b : Addr) (sd : Nat) (rs : List Road) (k : Nat) (bs : List Int) (g : Nat → Option Nat), vs = [.ref a, .ref b, nV sd] ∧ WebAt H a rs k ∧ H b = some (.tup (bs.map V.int)) ∧ bs.length = rs.length ∧
  ((sd = 0 ∧ g = Bg rs) ∨ (sd = 1 ∧ g = En rs)) ∧ ∀ H' p, Same H H' → H p = none → H' p = some (.tup ((flist g bs k rs.length).map V.int)) → Q (.ref p) H'
theorem ok_sums {f f1 : Addr} {fd fd1 : FuncData} (D : Df K mg "sums" s_sums P_sums f fd) (T : Tx mg) (D_houses_of : Df K mg "houses_of" s_houses_of P_houses_of f1 fd1) : FnOk P w K mg base CX0 2 f fd P_sums (sp_sums K) := by
  have G_houses_of : FnOk P w K mg base CX0 1 f1 fd1 P_houses_of sp_houses_of := ok_houses_of D_houses_of T
  refine D.F.ok sc_sums (fun vs H Q E h => ?_) (fun cdv A outer s H vs Q E hr h => ?_)
  · obtain ⟨a, b, sd, rs, k, bs, g, rfl, _⟩ := h
    rfl
  · obtain ⟨a, b, sd, rs, k, bs, g, rfl, W, hb, hbl, hg, q⟩ := h
    obtain ⟨R, G, Tk, gs, hw, hR, hG, hk⟩ := W.at_
    obtain ⟨xs, hxs, hxl, hxa⟩ := seq_at (K := K) hR
    have h8 := W.houses
    refine ⟨_, pss_cons (ps_set (i := 3) sc_sums.nd rfl (.inl rfl) (pe_op op_rep (pe_lst (pa_cons pe_int pa_nil)) (pe_call G_houses_of (hr.mono (by decide)) (by rfl) D_houses_of.g D_houses_of.F.kp D_houses_of.b .nil pass0 (pa_cons (pv 0) pa_nil))))
        (pss_cons (ps_for PassesOwn.never rfl (iZip_ (K := K) (by rfl) T.zip (pa_cons (pe_ix (ixT (K := K)) (pv 0) pe_int (fun _ _ => rfl)) (pa_cons (pv 1) pa_nil))) (gtup (K := K) rfl (pgs_cons (pg_name (i := 4) sc_sums.nd rfl (.inl rfl)) (pgs_cons (pg_name (i := 5) sc_sums.nd rfl (.inl rfl)) pgs_nil)))
        (pss_one (ps_if (pt_cmpR op_notN (pe_ix (ixT (K := K)) (pv 4) (pv 2) (fun _ _ => rfl)) pe_non (nomark _))
        (pss_one (ps_augS (pv 3) (pe_ix (ixT (K := K)) (pv 4) (pv 2) (fun _ _ => rfl)) (getL (K := K)) (pv 5) ip_add set_list))
        pss_nil)))
        (pss_one (ps_ret (pe_callTy (tupOf (K := K)) (by rfl) T.tuple_ (by decide +kernel) (pa_cons (pv 3) pa_nil))))), ?_⟩
    -- found = [0] * houses_of(web)
    refine ⟨by show 1 ≤ sizeLine; decide, fun p1 hp1 => ?_⟩
    have s1 := (Same.refl H).new hp1 (o := .lst [V.int 0])
    refine ⟨.ref a, rfl, a, rs, k, rfl, W.mono s1.tups, p1, (k : Int), [V.int 0], rfl, rfl, upd_same, by omega, by omega, ?_, fun F hF => ?_⟩
    · show 1 * ((k : Int)).toNat ≤ sizeLine
      exact small_of (by omega)
    have e2 : (List.replicate ((k : Int)).toNat [V.int 0]).flatten = (flist g bs k 0).map V.int := by
      rw [Int.toNat_natCast, rep_flat, flist_zero, List.map_replicate]
    rw [e2]
    have s2 := s1.new hF (o := .lst ((flist g bs k 0).map V.int))
    have hF0 : H F = none := s1.free hF
    -- the loop
    refine ⟨.ref a, rfl, a, _, 0, .ref R, rfl, rfl, SqT.of (s2 _ _ hw), at_nat (j := 0) rfl, .ref b, rfl, R, b, xs, bs.map V.int, rfl, .inr ⟨s2.seqT hxs, SqT.of (s2 _ _ hb), ?_⟩⟩
    refine RZ.for_zipT (K := K) (a := R) (b := b) (xs := xs) (ys := bs.map V.int) (by rw [hxl, List.length_map, hbl]) (fun i σ H' => ∃ y4 y5, σ = [some (.ref a), some (.ref b), some (nV sd), some (.ref F), y4, y5] ∧ Same H H' ∧ H' F = some (.lst ((flist g bs k i).map V.int))) ⟨none, none, rfl, s2, upd_same⟩ (fun i σ H' h => by
      obtain ⟨_, _, _, hs, _⟩ := h
      exact ⟨hs.seqT hxs, SqT.of (hs _ _ hb)⟩) (fun i x y Tp σ H1 hx hy hp hT => ?_) (fun σ H1 hp => ?_)
    · obtain ⟨y4, y5, rfl, hs, hacc⟩ := hp
      obtain ⟨d, r, rfl, hr_, hd⟩ := hxa i x hx
      have hi : i < rs.length := (List.getElem?_eq_some_iff.mp hr_).1
      have hy2 := map_int_at (bs := bs) (j := i) (by omega)
      rw [hy] at hy2
      have hy2 := Option.some.inj hy2
      subst hy2
      have sT := hs.new hT (o := .tup [.ref d, .int (bs.getD i 0)])
      have hacc2 := up_other (o := .tup [.ref d, .int (bs.getD i 0)]) hacc hT
      have hd2 := sT _ _ hd
      have hat : ([oV r.b, oV r.e, V.int r.r] : List V)[sd]? = some (oV (g i)) := by
        rcases hg with ⟨rfl, rfl⟩ | ⟨rfl, rfl⟩
        · rw [Bg_at hr_]
          rfl
        · rw [En_at hr_]
          rfl
      have hlt : ∀ h, g i = some h → h < k := fun h e => by
        have z := W.lt r (List.mem_of_getElem? hr_)
        rcases hg with ⟨rfl, rfl⟩ | ⟨rfl, rfl⟩
        · rw [Bg_at hr_] at e
          exact z.1 h e
        · rw [En_at hr_] at e
          exact z.2 h e
      refine ⟨Tp, _, rfl, SqT.of upd_same, rfl, .ref d, _, rfl, .int (bs.getD i 0), _, rfl, rfl, ?_⟩
      refine ⟨.ref d, rfl, nV sd, rfl, d, _, sd, oV (g i), rfl, rfl, SqT.of hd2, at_nat hat, rfl, _, rfl, ?_⟩
      cases eg : g i with
      | none =>
        refine iteF ⟨_, _, rfl, sT, ?_⟩
        rw [flist_none eg]
        exact hacc2
      | some h =>
        have hh := hlt h eg
        rw [eg] at hat
        have hl : h < (flist g bs k i).length := by rw [flist_length]; exact hh
        refine iteT ⟨.ref F, rfl, .ref d, rfl, nV sd, rfl, d, _, sd, oV (some h), rfl, rfl, SqT.of hd2, at_nat hat, F, _, h, .int _, rfl, rfl, SqL.of hacc2, at_nat (map_int_at hl), .int (bs.getD i 0), rfl, _, _, rfl, rfl, F, _, h, h, rfl, rfl, hacc2, ixN_nat (by rw [List.length_map]; exact hl), ?_⟩
        refine ⟨_, _, rfl, sT.put hF0, ?_⟩
        rw [upd_same, map_set_int, flist_some eg hh]
    · obtain ⟨y4, y5, rfl, hs, hacc⟩ := hp
      rw [hxl] at hacc
      refine ⟨.ref F, rfl, F, _, rfl, .inl ⟨SqL.of hacc, fun p2 hp2 => ?_⟩⟩
      exact q _ p2 (hs.new hp2) (hs.free hp2) upd_same
/-! ### streamfault -/
def sp_streamfault (K : PySem.W.Frag) : Sp := fun vs H Q _ => ∃ (a b : Addr) (rs : List Road) (k : Nat) (bs : List Int), vs = [.ref a, .ref b] ∧ WebAt H a rs k ∧ H b = some (.tup (bs.map V.int)) ∧ bs.length = rs.length ∧ (∀ j, j < rs.length → 0 ≤ bs.getD j 0) ∧ Bal rs bs ∧
  (∀ i, i < rs.length → Rm rs i < bs.getD i 0 → (∀ j, j < i → bs.getD j 0 ≤ Rm rs j) → ∀ H' p, Same H H' → H p = none → H' p = some (.tup [.str "room", nV i]) → Q (.ref p) H') ∧
  ((∀ j, j < rs.length → bs.getD j 0 ≤ Rm rs j) → ∀ H', Same H H' → Q .non H')
theorem ok_streamfault {f f1 f2 f3 f4 : Addr} {fd fd1 fd2 fd3 fd4 : FuncData} (D : Df K mg "streamfault" s_streamfault P_streamfault f fd) (T : Tx mg) (D_is_row : Df K mg "is_row" s_is_row P_is_row f1 fd1) (D_is_number : Df K mg "is_number" s_is_number P_is_number f2 fd2)
    (D_is_amount : Df K mg "is_amount" s_is_amount P_is_amount f3 fd3) (D_sums : Df K mg "sums" s_sums P_sums f4 fd4) (G_is_row : FnOk P w K mg base CX0 1 f1 fd1 P_is_row (sp_is_row K)) (G_is_number : FnOk P w K mg base CX0 1 f2 fd2 P_is_number sp_is_number)
    (G_is_amount : FnOk P w K mg base CX0 1 f3 fd3 P_is_amount sp_is_amount) (G_sums : FnOk P w K mg base CX0 2 f4 fd4 P_sums (sp_sums K)) : FnOk P w K mg base CX0 3 f fd P_streamfault (sp_streamfault K) := by
  refine D.F.ok sc_streamfault (fun vs H Q E h => ?_) (fun cdv A outer s H vs Q E hr h => ?_)
  · obtain ⟨a, b, rs, k, bs, rfl, _⟩ := h
    rfl
  · obtain ⟨a, b, rs, k, bs, rfl, W, hb, hbl, hnn, hbal, qover, qfine⟩ := h
    obtain ⟨R, G, Tk, gs, hw, hR, hG, hk⟩ := W.at_
    obtain ⟨xs, hxs, hxl, hxa⟩ := seq_at (K := K) hR
    have h20 := W.few
    refine ⟨_, pss_cons (ps_set (i := 2) sc_streamfault.nd rfl (.inl rfl) (pe_callB (lenS (K := K)) (by rfl) T.len PySem.boot_len (pa_cons (pe_ix (ixT (K := K)) (pv 0) pe_int (fun _ _ => rfl)) pa_nil)))
        (pss_cons (ps_if (PW.pt (pw_or (pt_not (pt_val (pe_call G_is_row (hr.mono (by decide)) (by rfl) D_is_row.g D_is_row.F.kp D_is_row.b .nil pass0 (pa_cons (pv 1) (pa_cons (pv 2) (pa_cons (pv 2) pa_nil)))))) (pw_or1 (pt_not (pt_val (pe_callB (crAll (K := K) rfl) (by rfl) T.all (by decide +kernel) (pa_cons (pe_lc (own := [(("one" : Str), 8)]) (g := gName 8) (tt := tYes) rfl sc_streamfault.nd (iTup_ (K := K) (pv 1)) (blkOk_by (own := [(("one" : Str), 8)]) (N := N_streamfault) (sc := defScope s_streamfault) (by decide +kernel)) (fun _ _ _ _ _ => (pg_name (i := 8) sc_streamfault.nd rfl (.inl rfl))) (fun _ _ _ _ _ => pts_nil) (fun _ _ _ _ _ => (pe_call G_is_amount (hr.mono (by decide)) (by rfl) D_is_amount.g D_is_amount.F.kp D_is_amount.b .nil pass0 (pa_cons (pv 8) pa_nil)))) pa_nil)))))))
        (pss_one (ps_ret (pe_tup (pa_cons pe_str pa_nil))))
        pss_nil)
        (pss_cons (ps_for PassesOwn.never rfl (iE_ (K := K) (by rfl) T.enumerate (pa_cons (pe_ix (ixT (K := K)) (pv 0) pe_int (fun _ _ => rfl)) pa_nil)) (gtup (K := K) rfl (pgs_cons (pg_name (i := 3) sc_streamfault.nd rfl (.inl rfl)) (pgs_cons (pg_name (i := 4) sc_streamfault.nd rfl (.inl rfl)) pgs_nil)))
        (pss_one (ps_if (pt_not (pt_val (pe_call G_is_number (hr.mono (by decide)) (by rfl) D_is_number.g D_is_number.F.kp D_is_number.b .nil pass0 (pa_cons (pe_ix (ixT (K := K)) (pv 1) (pv 3) (fun _ _ => rfl)) (pa_cons pe_int (pa_cons (pe_ix (ixT (K := K)) (pv 4) pe_int (fun _ _ => rfl)) pa_nil))))))
        (pss_one (ps_ret (pe_tup (pa_cons pe_str (pa_cons (pv 3) pa_nil)))))
        pss_nil)))
        (pss_cons (ps_for PassesOwn.never rfl (iEZ_ (K := K) (by rfl) T.enumerate (by rfl) T.zip (pa_cons (pe_call G_sums (hr.mono (by decide)) (by rfl) D_sums.g D_sums.F.kp D_sums.b .nil pass0 (pa_cons (pv 0) (pa_cons (pv 1) (pa_cons pe_int pa_nil)))) (pa_cons (pe_call G_sums (hr.mono (by decide)) (by rfl) D_sums.g D_sums.F.kp D_sums.b .nil pass0 (pa_cons (pv 0) (pa_cons (pv 1) (pa_cons pe_int pa_nil)))) pa_nil))) (gtup (K := K) rfl (pgs_cons (pg_name (i := 5) sc_streamfault.nd rfl (.inl rfl)) (pgs_cons (gtup (K := K) rfl (pgs_cons (pg_name (i := 6) sc_streamfault.nd rfl (.inl rfl)) (pgs_cons (pg_name (i := 7) sc_streamfault.nd rfl (.inl rfl)) pgs_nil))) pgs_nil)))
        (pss_one (ps_if (pt_cmpR op_ne (pv 6) (pv 7) (nomark _))
        (pss_one (ps_ret (pe_tup (pa_cons pe_str (pa_cons (pv 5) pa_nil)))))
        pss_nil)))
        (pss_one (ps_ret pe_non))))), ?_⟩
    -- many = len(web[0])
    refine ⟨.ref a, rfl, a, _, 0, .ref R, rfl, rfl, SqT.of hw, at_nat (j := 0) rfl, R, xs, rfl, .inr hxs, ?_⟩
    -- is_row
    refine ⟨.ref b, rfl, nV xs.length, rfl, nV xs.length, rfl, b, _, xs.length, xs.length, rfl, hb, _, rfl, ?_⟩
    have e1 : decide (((xs.length : Nat) : Int) ≤ (((bs.map V.int).length : Nat) : Int) ∧ (((bs.map V.int).length : Nat) : Int) ≤ ((xs.length : Nat) : Int)) = true := decide_eq_true (by
      rw [List.length_map, hbl, hxl]
      exact ⟨Int.le_refl _, Int.le_refl _⟩)
    rw [e1]
    refine iteF ?_
    -- all amounts
    refine ⟨.ref b, rfl, b, rfl, ⟨_, SqT.of hb⟩, fun D1 hD1 => ?_⟩
    refine lc_tup (K := K) (a := b) (xs := bs.map V.int) (fun i H' => Same H H' ∧ H' D1 = some (.lst ((List.replicate i true).map V.bl))) ⟨(Same.refl H).new hD1, upd_same⟩ (fun i H' _ h => SqT.of (h.1 _ _ hb)) (fun i v H1 hx hp => ?_) (fun H1 hp => ?_)
    · obtain ⟨hs, hacc⟩ := hp
      have hi : i < (bs.map V.int).length := (List.getElem?_eq_some_iff.mp hx).1
      rw [List.length_map] at hi
      rw [map_int_at hi] at hx
      have hx := Option.some.inj hx
      subst hx
      refine ⟨rfl, .int (bs.getD i 0), rfl, bs.getD i 0, rfl, ?_⟩
      rw [decide_eq_true (hnn i (by omega))]
      refine ⟨_, hacc, ?_, hs.put hD1, ?_⟩
      · rw [List.length_map, List.length_replicate]
        exact small_lt (by omega)
      · rw [upd_same, trues_snoc]
    obtain ⟨s1, hB⟩ := hp
    refine ⟨D1, _, rfl, SqL.of hB, _, rfl, ?_⟩
    rw [trues]
    refine iteF ?_
    -- the rooms
    refine ⟨.ref a, rfl, a, _, 0, .ref R, rfl, rfl, SqT.of (s1 _ _ hw), at_nat (j := 0) rfl, R, xs, rfl, s1.seqT hxs, ?_⟩
    refine for_it (walk_E (K := K) (xs := xs)) (fun i σ H' => ∃ y3 y4, σ = [some (.ref a), some (.ref b), some (nV xs.length), y3, y4, none, none, none, none] ∧ Same H H' ∧ ∀ j, j < i → bs.getD j 0 ≤ Rm rs j) ⟨none, none, rfl, s1, fun j hj => absurd hj (Nat.not_lt_zero j)⟩ (fun i σ H' _ h => by
      obtain ⟨_, _, _, hs, _⟩ := h
      exact hs.seqT hxs) (fun i v σ H2 H3 hi hp hy => ?_) (fun σ H2 hp => ?_)
    · obtain ⟨y3, y4, rfl, hs, hfine⟩ := hp
      obtain ⟨Tp, y0, y, rfl, hT, rfl, e0, e1⟩ := hy
      have e0 : some (V.int (i : Int)) = some y0 := e0
      cases e0
      have e1 : xs[i]? = some y := e1
      obtain ⟨d, r, rfl, hr_, hd⟩ := hxa i y e1
      have hir : i < rs.length := by omega
      have sT := hs.new hT (o := .tup [.int (i : Int), .ref d])
      refine ⟨Tp, _, rfl, SqT.of upd_same, rfl, _, _, rfl, _, _, rfl, rfl, ?_⟩
      refine ⟨.ref b, rfl, nV i, rfl, b, _, i, .int (bs.getD i 0), rfl, rfl, SqT.of (sT _ _ hb), at_nat (map_int_at (by omega)), .ref d, rfl, d, _, 2, .int r.r, rfl, rfl, SqT.of (sT _ _ hd), at_nat (j := 2) rfl, bs.getD i 0, 0, r.r, rfl, _, rfl, ?_⟩
      by_cases c : bs.getD i 0 ≤ r.r
      · rw [decide_eq_true (show 0 ≤ bs.getD i 0 ∧ bs.getD i 0 ≤ r.r from ⟨hnn i hir, c⟩)]
        refine iteF ⟨_, _, rfl, sT, fun j hj => ?_⟩
        by_cases e : j = i
        · subst e
          rw [Rm_at hr_]
          exact c
        · exact hfine j (by omega)
      · rw [decide_eq_false (fun z : 0 ≤ bs.getD i 0 ∧ bs.getD i 0 ≤ r.r => c z.2)]
        refine iteT ⟨nV i, rfl, by show 2 ≤ sizeLine; decide, fun p hp => ?_⟩
        exact qover i hir (by rw [Rm_at hr_]; omega) hfine _ p (sT.new hp) (sT.free hp) upd_same
    · obtain ⟨y3, y4, rfl, hs, hfine⟩ := hp
      rw [hxl] at hfine
      -- the houses
      refine ⟨.ref a, rfl, .ref b, rfl, a, b, 0, rs, k, bs, Bg rs, rfl, W.mono hs.tups, hs _ _ hb, hbl, .inl ⟨rfl, rfl⟩, fun H3 p1 s3 hp1 hP1 => ?_⟩
      have s03 := hs.trans s3
      refine ⟨.ref a, rfl, .ref b, rfl, a, b, 1, rs, k, bs, En rs, rfl, W.mono s03.tups, s03 _ _ hb, hbl, .inr ⟨rfl, rfl⟩, fun H4 p2 s4 hp2 hP2 => ?_⟩
      have s04 := s03.trans s4
      have hP14 := s4 _ _ hP1
      rw [← flist_bal hbal k] at hP2
      refine ⟨p1, p2, (flist (Bg rs) bs k rs.length).map V.int, (flist (Bg rs) bs k rs.length).map V.int, rfl, SqT.of hP14, SqT.of hP2, ?_⟩
      refine for_it (walk_EZ (K := K) rfl) (fun i σ H' => ∃ y5 y6 y7, σ = [some (.ref a), some (.ref b), some (nV xs.length), y3, y4, y5, y6, y7, none] ∧ Same H4 H') ⟨none, none, none, rfl, Same.refl H4⟩ (fun i σ H' _ h => by
        obtain ⟨_, _, _, _, hs⟩ := h
        exact ⟨SqT.of (hs _ _ hP14), SqT.of (hs _ _ hP2)⟩) (fun i v σ H5 H6 hi hp hy => ?_) (fun σ H5 hp => ?_)
      · obtain ⟨y5, y6, y7, rfl, hs5⟩ := hp
        obtain ⟨Pp, Tp, x, y, rfl, hPn, hTn, rfl, ex, ey⟩ := hy
        rw [ex] at ey
        have ey := Option.some.inj ey
        subst ey
        have hi2 : i < (flist (Bg rs) bs k rs.length).length := by simpa using hi
        rw [map_int_at hi2] at ex
        have ex := Option.some.inj ex
        subst ex
        have s6 := (hs5.new hPn (o := .tup [.int ((flist (Bg rs) bs k rs.length).getD i 0), .int ((flist (Bg rs) bs k rs.length).getD i 0)])).new hTn (o := .tup [.int (i : Int), .ref Pp])
        have hPp := up_other (o := .tup [.int (i : Int), .ref Pp]) (upd_same (H := H5) (a := Pp) (o := .tup [.int ((flist (Bg rs) bs k rs.length).getD i 0), .int ((flist (Bg rs) bs k rs.length).getD i 0)])) hTn
        refine ⟨Tp, _, rfl, SqT.of upd_same, rfl, _, _, rfl, _, _, rfl, ⟨Pp, _, rfl, SqT.of hPp, rfl, _, _, rfl, _, _, rfl, rfl, rfl, ?_⟩⟩
        refine ⟨_, rfl, _, rfl, rfl, _, rfl, ?_⟩
        rw [decide_eq_true rfl]
        exact iteF ⟨_, _, _, rfl, s6⟩
      · obtain ⟨y5, y6, y7, rfl, hs5⟩ := hp
        exact qfine hfine _ (s04.trans hs5)
end
end U12

set_option Elab.async false
set_option linter.all false
set_option maxRecDepth 100000
set_option maxHeartbeats 4000000
namespace U12
open PySem PySem.Spec PyProof.Rows L2
/-- led on so far -/
structure Led (rs : List Road) (bs : List Int) (first : Nat) (row : List Nat) (house : Option Nat) : Prop where
  ne : row ≠ []
  ch : Chain rs (Bg rs first) row house
  nd : (row.map (Bg rs)).Nodup
  nn : none ∉ (row.map (Bg rs)).tail
  ok : ∀ j, j ∈ row → j < rs.length ∧ 0 < bs.getD j 0
theorem Led.start {rs : List Road} {bs : List Int} {first : Nat} (h : first < rs.length) (p : 0 < bs.getD first 0) : Led rs bs first [first] (En rs first) where
  ne := by simp
  ch := ⟨rfl, rfl⟩
  nd := by simp
  nn := by simp
  ok := fun j hj => by
    rw [List.mem_singleton.mp hj]
    exact ⟨h, p⟩
theorem Led.step {rs : List Road} {bs : List Int} {first h j : Nat} {row : List Nat} (l : Led rs bs first row (some h)) (hn : some h ∉ row.map (Bg rs)) (hj : j < rs.length) (hb : Bg rs j = some h) (p : 0 < bs.getD j 0) : Led rs bs first (row ++ [j]) (En rs j) where
  ne := by simp
  ch := chain_snoc l.ch hb
  nd := by
    rw [List.map_append, List.nodup_append]
    refine ⟨l.nd, by simp, fun x hx y hy e => ?_⟩
    have e2 : y = some h := by
      rw [← hb]
      simpa using hy
    rw [e, e2] at hx
    exact hn hx
  nn := fun hm => by
    cases hr : row with
    | nil => exact l.ne hr
    | cons k r =>
      rw [hr, List.map_append] at hm
      have hm : none ∈ r.map (Bg rs) ++ [j].map (Bg rs) := hm
      rcases List.mem_append.mp hm with hm | hm
      · have z := l.nn
        rw [hr] at z
        exact z hm
      · have e : none = Bg rs j := by simpa using hm
        rw [hb] at e
        cases e
  ok := fun i hi => by
    rcases List.mem_append.mp hi with hi | hi
    · exact l.ok i hi
    · rw [List.mem_singleton.mp hi]
      exact ⟨hj, p⟩
theorem Led.len {rs : List Road} {bs : List Int} {first k : Nat} {row : List Nat} {house : Option Nat} (l : Led rs bs first row house) (lt : ∀ r, r ∈ rs → ∀ h, r.b = some h → h < k) : row.length ≤ k + 1 := by
  have q := nodup_opt (n := k) l.nd fun x hx => by
    obtain ⟨j, hj, e⟩ := List.mem_map.mp hx
    have hr := List.getElem?_eq_getElem (l.ok j hj).1
    rw [Bg_at hr] at e
    exact lt _ (List.getElem_mem _) x e
  rwa [List.length_map] at q
theorem last_of {row : List Nat} (h : row ≠ []) : ∃ k, row.getLast? = some k ∧ k ∈ row := ⟨row.getLast h, List.getLast?_eq_getLast h, List.getLast_mem h⟩
theorem Led.goes {rs : List Road} {bs : List Int} {first : Nat} {row : List Nat} {house : Option Nat} (l : Led rs bs first row house) (b : Bal rs bs) (nn : ∀ j, j < rs.length → 0 ≤ bs.getD j 0) : ∃ j, j < rs.length ∧ Bg rs j = house ∧ 0 < bs.getD j 0 := by
  obtain ⟨k, hk, hm⟩ := last_of l.ne
  obtain ⟨j, h1, h2, h3⟩ := b.goes nn (l.ok k hm).1 (l.ok k hm).2
  exact ⟨j, h1, h2.trans (chain_last l.ch hk), h3⟩
theorem Led.out {rs : List Road} {bs : List Int} {first : Nat} {row : List Nat} (l : Led rs bs first row none) (b : Bal rs bs) (nn : ∀ j, j < rs.length → 0 ≤ bs.getD j 0) (hd : Bg rs first = none ∨ ∀ j, j < rs.length → Bg rs j = none → bs.getD j 0 ≤ 0) : Cyc rs row none := by
  have e : Bg rs first = none := by
    rcases hd with h | h
    · exact h
    · obtain ⟨j, h1, h2, h3⟩ := l.goes b nn
      have z := h j h1 h2
      omega
  have c := l.ch
  rw [e] at c
  exact ⟨l.ne, fun j hj => (l.ok j hj).1, c, l.nd, l.nn⟩
theorem Led.ring {rs : List Road} {bs : List Int} {first h i : Nat} {row : List Nat} (l : Led rs bs first row (some h)) (hi : (row.map (Bg rs))[i]? = some (some h)) : Cyc rs (row.drop i) (some h) := by
  have hil : i < row.length := by
    have z := (List.getElem?_eq_some_iff.mp hi).1
    rwa [List.length_map] at z
  have c := l.ch
  rw [← List.take_append_drop i row] at c
  obtain ⟨y, _, c2⟩ := chain_cut c
  have e : row.drop i = row[i] :: row.drop (i + 1) := List.drop_eq_getElem_cons hil
  have ey : y = some h := by
    rw [e] at c2
    rw [List.getElem?_map, List.getElem?_eq_getElem hil] at hi
    exact c2.1.symm.trans (Option.some.inj hi)
  rw [ey] at c2
  refine ⟨by rw [e]; exact List.cons_ne_nil _ _, fun j hj => (l.ok j (List.mem_of_mem_drop hj)).1, c2, ?_, fun hm => ?_⟩
  · rw [List.map_drop]
    exact l.nd.sublist (List.drop_sublist i _)
  · rw [List.map_drop, List.tail_drop] at hm
    refine l.nn ?_
    rw [← List.drop_one]
    have z : none ∈ ((row.map (Bg rs)).drop 1).drop i := by
      rw [List.drop_drop]
      rwa [Nat.add_comm 1 i]
    exact List.mem_of_mem_drop z
theorem nextsTo_mem {rs : List Road} {bs : List Int} {x : Option Nat} {n j : Nat} : j ∈ nextsTo rs bs x n ↔ j < n ∧ Bg rs j = x ∧ 0 < bs.getD j 0 := by
  unfold nextsTo
  rw [List.mem_filter, List.mem_range, Bool.and_eq_true, decide_eq_true_eq, decide_eq_true_eq]
section
variable {P : Program} {w : World} {K : PySem.W.Frag} {mg : Str → Option Value} {base : Heap}
/-! ### led_on -/
def sp_led_on (K : PySem.W.Frag) : Sp := fun vs H Q _ => ∃ (a b : Addr) (first : Nat) (rs : List Road) (k : Nat) (bs : List Int), vs = [.ref a, .ref b, nV first] ∧ WebAt H a rs k ∧ H b = some (.lst (bs.map V.int)) ∧ bs.length = rs.length ∧ (∀ j, j < rs.length → 0 ≤ bs.getD j 0) ∧ Bal rs bs ∧
  first < rs.length ∧ 0 < bs.getD first 0 ∧ (Bg rs first = none ∨ ∀ j, j < rs.length → Bg rs j = none → bs.getD j 0 ≤ 0) ∧
  ∀ (H' : Hp) (t l : Addr) (row : List Nat) (n : Nat) (x : Option Nat), Same H H' → H t = none → H l = none → H' t = some (.tup [.ref l, nV n]) → H' l = some (.lst (row.map nV)) → row.length ≤ 9 → Cyc rs (row.drop n) x → (∀ j, j ∈ row.drop n → 0 < bs.getD j 0) → Q (.ref t) H'
theorem ok_led_on {f f1 : Addr} {fd fd1 : FuncData} (D : Df K mg "led_on" s_led_on P_led_on f fd) (T : Tx mg) (D_next_roads : Df K mg "next_roads" s_next_roads P_next_roads f1 fd1) : FnOk P w K mg base CX0 2 f fd P_led_on (sp_led_on K) := by
  have G_next_roads : FnOk P w K mg base CX0 1 f1 fd1 P_next_roads (sp_next_roads K) := ok_next_roads D_next_roads T
  refine D.F.ok sc_led_on (fun vs H Q E h => ?_) (fun cdv A outer s H vs Q E hr h => ?_)
  · obtain ⟨a, b, first, rs, k, bs, rfl, _⟩ := h
    rfl
  · obtain ⟨a, b, first, rs, k, bs, rfl, W, hb, hbl, hnn, hbal, hfl, hfp, hdoor, q⟩ := h
    obtain ⟨R, G, Tk, gs, hw, hR, hG, hk⟩ := W.at_
    have h8 := W.houses
    have lt1 : ∀ r, r ∈ rs → ∀ h, r.b = some h → h < k := fun r hr => (W.lt r hr).1
    refine ⟨_, pss_cons (ps_set (i := 3) sc_led_on.nd rfl (.inl rfl) (pe_lst (pa_cons (pv 2) pa_nil)))
        (pss_cons (ps_set (i := 4) sc_led_on.nd rfl (.inl rfl) (pe_lst (pa_cons (pe_ix (ixT (K := K)) (pe_ix (ixT (K := K)) (pe_ix (ixT (K := K)) (pv 0) pe_int (fun _ _ => rfl)) (pv 2) (fun _ _ => rfl)) pe_int (fun _ _ => rfl)) pa_nil)))
        (pss_cons (ps_set (i := 5) sc_led_on.nd rfl (.inl rfl) (pe_ix (ixT (K := K)) (pe_ix (ixT (K := K)) (pe_ix (ixT (K := K)) (pv 0) pe_int (fun _ _ => rfl)) (pv 2) (fun _ _ => rfl)) pe_int (fun _ _ => rfl)))
        (pss_cons (ps_while PassesOwn.never (PW.pt (pw_and (pt_cmpR op_notN (pv 5) pe_non (nomark _)) (pw_and1 (pt_cmpR (notInS (K := K)) (pv 5) (pv 4) (by rfl)))))
        (pss_cons (ps_expr (pe_bm PySem.F.plainAttrs_list PySem.F.slot_list_append PySem.F.type_list_append mt_append (pv 4) (pa_cons (pv 5) pa_nil)))
        (pss_cons (ps_expr (pe_bm PySem.F.plainAttrs_list PySem.F.slot_list_append PySem.F.type_list_append mt_append (pv 3) (pa_cons (pe_ix (ixL (K := K)) (pe_call G_next_roads (hr.mono (by decide)) (by rfl) D_next_roads.g D_next_roads.F.kp D_next_roads.b .nil pass0 (pa_cons (pv 0) (pa_cons (pv 1) (pa_cons (pv 5) pa_nil)))) pe_int (fun _ _ => rfl)) pa_nil)))
        (pss_one (ps_set (i := 5) sc_led_on.nd rfl (.inl rfl) (pe_ix (ixT (K := K)) (pe_ix (ixT (K := K)) (pe_ix (ixT (K := K)) (pv 0) pe_int (fun _ _ => rfl)) (pe_ix (ixL (K := K)) (pv 3) (pe_un un_neg pe_int) (fun _ _ => rfl)) (fun _ _ => rfl)) pe_int (fun _ _ => rfl)))))))
        (pss_one (ps_ret (pe_tup (pa_cons (pv 3) (pa_cons (pe_ifExp (pt_cmpR op_notN (pv 5) pe_non (nomark _)) (pe_bm PySem.F.plainAttrs_list PySem.F.slot_list_index PySem.F.type_list_index (mtIndex (K := K)) (pv 4) (pa_cons (pv 5) pa_nil)) pe_int) pa_nil)))))))), ?_⟩
    -- row = [first]
    refine ⟨nV first, rfl, by show 1 ≤ sizeLine; decide, fun L hL => ?_⟩
    have s1 := (Same.refl H).new hL (o := .lst [nV first])
    -- begun, house
    obtain ⟨d, r, ys, hr_, hys, hyd, hd, eb, ee⟩ := (hR.mono s1.tups).get (K := K) hfl
    refine ⟨.ref a, rfl, a, _, 0, .ref R, rfl, rfl, SqT.of (s1 _ _ hw), at_nat (j := 0) rfl, nV first, rfl, R, ys, _, .ref d, rfl, rfl, hys, hyd, d, _, 0, oV r.b, rfl, rfl, SqT.of hd, at_nat (j := 0) rfl, by show 1 ≤ sizeLine; decide, fun B hB => ?_⟩
    have s2 := s1.new hB (o := .lst [oV r.b])
    have hL2 := up_other (o := .lst [oV r.b]) (upd_same (H := H) (a := L) (o := .lst [nV first])) hB
    obtain ⟨d', r', ys', hr', hys', hyd', hd', eb', ee'⟩ := (hR.mono s2.tups).get (K := K) hfl
    refine ⟨.ref a, rfl, a, _, 0, .ref R, rfl, rfl, SqT.of (s2 _ _ hw), at_nat (j := 0) rfl, nV first, rfl, R, ys', _, .ref d', rfl, rfl, hys', hyd', d', _, 1, oV r'.e, rfl, rfl, SqT.of hd', at_nat (j := 1) rfl, ?_⟩
    have hLB : L ≠ B := ne_of_none (upd_same (H := H) (a := L) (o := .lst [nV first])) hB
    have hB0 : H B = none := s1.free hB
    rw [ee', eb] at *
    refine ⟨fun m σ H' => ∃ row house, m + row.length = 10 ∧ σ = [some (.ref a), some (.ref b), some (nV first), some (.ref L), some (.ref B), some (oV house)] ∧ Same H H' ∧ H' L = some (.lst (row.map nV)) ∧ H' B = some (.lst ((row.map (Bg rs)).map oV)) ∧ Led rs bs first row house,
      ⟨9, [first], En rs first, rfl, rfl, s2, hL2, upd_same, Led.start hfl hfp⟩, ?_⟩
    rintro m σ H1 ⟨row, house, hm, rfl, hs, hLr, hBr, led⟩
    have hlen := led.len lt1
    have done : ∀ (n : Nat) (x : Option Nat) (H2 : Hp), H2 = H1 → Cyc rs (row.drop n) x → ∀ p, H2 p = none → Q (.ref p) (upd H2 p (.tup [.ref L, nV n])) := fun n x H2 e c p hp => by
      subst e
      exact q _ p L row n x (hs.new hp) (hs.free hp) hL upd_same (up_other hLr hp) (by omega) c fun j hj => (led.ok j (List.mem_of_mem_drop hj)).2
    cases house with
    | none =>
      refine ⟨_, rfl, rfl, _, rfl, iteF (iteF ?_)⟩
      refine ⟨.ref L, rfl, _, rfl, rfl, _, rfl, iteF ⟨by show 2 ≤ sizeLine; decide, fun p hp => ?_⟩⟩
      exact done 0 none H1 rfl (led.out hbal hnn hdoor) p hp
    | some h =>
      refine ⟨_, rfl, rfl, _, rfl, iteT ?_⟩
      refine ⟨_, rfl, .ref B, rfl, B, _, rfl, .inl (SqL.of hBr), rfl, flats_oV _, _, rfl, ?_⟩
      show (if (!inV (oV (some h)) ((row.map (Bg rs)).map oV)) = true then _ else _)
      rw [in_oV]
      by_cases hin : some h ∈ row.map (Bg rs)
      · rw [decide_eq_true hin]
        refine iteF ?_
        obtain ⟨pre, rest, epre, hno⟩ := List.eq_append_cons_of_mem hin
        have hat : (row.map (Bg rs))[pre.length]? = some (some h) := by
          rw [epre, List.getElem?_append_right (Nat.le_refl _), Nat.sub_self]
          rfl
        refine ⟨.ref L, rfl, _, rfl, rfl, _, rfl, iteT ⟨.ref B, rfl, .inl ⟨rfl, _, SqL.of hBr⟩, _, rfl, B, _, oV (some h), pre.length, oV (some h), rfl, rfl, SqL.of hBr, rfl, flats_oV _, ?_, ?_, ?_, by show 2 ≤ sizeLine; decide, fun p hp => ?_⟩⟩
        · rw [List.getElem?_map, hat]
          rfl
        · rw [eq_oV]
          exact decide_eq_true rfl
        · intro m' z' hm' hz
          rw [List.getElem?_map, epre, List.getElem?_append_left hm', List.getElem?_eq_getElem hm'] at hz
          have hz : oV pre[m'] = z' := Option.some.inj hz
          subst hz
          rw [eq_oV]
          exact decide_eq_false fun e => hno (e ▸ List.getElem_mem hm')
        · exact done pre.length (some h) H1 rfl (led.ring hat) p hp
      · rw [decide_eq_false hin]
        refine iteT ⟨fun σ' H' => ∃ j, σ' = [some (.ref a), some (.ref b), some (nV first), some (.ref L), some (.ref B), some (oV (En rs j))] ∧ Same H H' ∧ H' L = some (.lst ((row ++ [j]).map nV)) ∧ H' B = some (.lst (((row ++ [j]).map (Bg rs)).map oV)) ∧ Led rs bs first (row ++ [j]) (En rs j), fun σ' H' hN => ?_, ?_⟩
        · obtain ⟨j, e, hs', hL', hB', led'⟩ := hN
          have hl' := led'.len lt1
          rw [List.length_append, List.length_singleton] at hl'
          exact ⟨m - 1, by omega, row ++ [j], En rs j, by rw [List.length_append, List.length_singleton]; omega, e, hs', hL', hB', led'⟩
        · -- begun.append(house)
          refine ⟨.ref B, rfl, .inl ⟨rfl, _, SqL.of hBr⟩, _, rfl, B, _, _, rfl, rfl, hBr, by rw [List.length_map, List.length_map]; exact small_lt (by omega), ?_⟩
          have s3 := hs.put (o := .lst ((row.map (Bg rs)).map oV ++ [oV (some h)])) hB0
          have hL3 : upd H1 B (.lst ((row.map (Bg rs)).map oV ++ [oV (some h)])) L = some (.lst (row.map nV)) := by
            rw [upd_ne hLB]
            exact hLr
          -- row.append(next_roads(..)[0])
          refine ⟨.ref L, rfl, .inl ⟨rfl, _, SqL.of hL3⟩, .ref a, rfl, .ref b, rfl, _, rfl, a, b, rs, k, bs, some h, rfl, W.mono s3.tups, s3 _ _ hb, hbl, fun H4 p4 s4 hp4 hP4 => ?_⟩
          obtain ⟨j1, hj1, hj2, hj3⟩ := led.goes hbal hnn
          have hmem : j1 ∈ nextsTo rs bs (some h) rs.length := nextsTo_mem.mpr ⟨hj1, hj2, hj3⟩
          obtain ⟨j, rest, enx⟩ : ∃ j rest, nextsTo rs bs (some h) rs.length = j :: rest := by
            cases e : nextsTo rs bs (some h) rs.length with
            | nil =>
              rw [e] at hmem
              cases hmem
            | cons j rest => exact ⟨j, rest, rfl⟩
          have hj := nextsTo_mem.mp (show j ∈ nextsTo rs bs (some h) rs.length by rw [enx]; exact List.mem_cons_self)
          rw [enx] at hP4
          have hL4 := s4 _ _ hL3
          have hB4 : H4 B = some (.lst ((row.map (Bg rs)).map oV ++ [oV (some h)])) := s4 _ _ upd_same
          refine ⟨p4, _, 0, nV j, rfl, rfl, SqL.of hP4, at_nat (j := 0) rfl, L, _, _, rfl, rfl, hL4, by rw [List.length_map]; exact small_lt (by omega), ?_⟩
          have s5 := (s3.trans s4).put (o := .lst (row.map nV ++ [nV j])) hL
          have hL5 : upd H4 L (.lst (row.map nV ++ [nV j])) L = some (.lst ((row ++ [j]).map nV)) := by
            rw [upd_same, List.map_append]
            rfl
          have hB5 : upd H4 L (.lst (row.map nV ++ [nV j])) B = some (.lst (((row ++ [j]).map (Bg rs)).map oV)) := by
            rw [upd_ne hLB.symm, hB4, List.map_append, List.map_append, ← hj.2.1]
            rfl
          -- house = web[0][row[-1]][1]
          obtain ⟨d6, r6, ys6, hr6, hys6, hyd6, hd6, eb6, ee6⟩ := (hR.mono s5.tups).get (K := K) hj.1
          have lastAt : atI ((row ++ [j]).map nV) (-1) = some (nV j) := by
            rw [List.map_append]
            exact atI_last _ _
          refine ⟨.ref a, rfl, a, _, 0, .ref R, rfl, rfl, SqT.of (s5 _ _ hw), at_nat (j := 0) rfl, .ref L, rfl, 1, rfl, L, _, -1, nV j, rfl, rfl, SqL.of hL5, lastAt, R, ys6, _, .ref d6, rfl, rfl, hys6, hyd6, d6, _, 1, oV r6.e, rfl, rfl, SqT.of hd6, at_nat (j := 1) rfl, ?_⟩
          refine ⟨j, by rw [ee6]; rfl, s5, hL5, hB5, led.step hin hj.1 hj.2.1 hj.2.2⟩
end
end U12

set_option Elab.async false
set_option linter.all false
set_option maxRecDepth 100000
set_option maxHeartbeats 4000000
namespace U12
open PySem PySem.Spec PyProof.Rows L2
def doorsTo (rs : List Road) (i : Nat) : List Nat := (List.range i).filter fun k => decide (Bg rs k = none)
def othersTo (rs : List Road) (i : Nat) : List Nat := (List.range i).filter fun k => !decide (Bg rs k = none)
theorem doorsTo_succ (rs : List Road) (i : Nat) : doorsTo rs (i + 1) = if Bg rs i = none then doorsTo rs i ++ [i] else doorsTo rs i := by
  unfold doorsTo
  rw [List.range_succ, List.filter_append]
  by_cases h : Bg rs i = none
  · rw [if_pos h, List.filter_cons_of_pos (p := fun k => decide (Bg rs k = none)) (decide_eq_true h), List.filter_nil]
  · rw [if_neg h, List.filter_cons_of_neg (p := fun k => decide (Bg rs k = none)) (fun z => h (of_decide_eq_true z)), List.filter_nil, List.append_nil]
theorem othersTo_succ (rs : List Road) (i : Nat) : othersTo rs (i + 1) = if Bg rs i = none then othersTo rs i else othersTo rs i ++ [i] := by
  unfold othersTo
  rw [List.range_succ, List.filter_append]
  by_cases h : Bg rs i = none
  · have e : ¬ ((!decide (Bg rs i = none)) = true) := by rw [decide_eq_true h]; decide
    rw [if_pos h, List.filter_cons_of_neg (p := fun k => !decide (Bg rs k = none)) e, List.filter_nil, List.append_nil]
  · have e : (!decide (Bg rs i = none)) = true := by rw [decide_eq_false h]; rfl
    rw [if_neg h, List.filter_cons_of_pos (p := fun k => !decide (Bg rs k = none)) e, List.filter_nil]
theorem filter_len (p : Nat → Bool) (i : Nat) : ((List.range i).filter p).length ≤ i := by
  have q := List.length_filter_le p (List.range i)
  rwa [List.length_range] at q
theorem dec_non (o : Option Nat) : decide (oV o = V.non) = decide (o = none) := dec_oV o none
def startsOf (rs : List Road) : List Nat := doorsTo rs rs.length ++ othersTo rs rs.length
theorem starts_lt {rs : List Road} {j : Nat} (h : j ∈ startsOf rs) : j < rs.length := by
  rcases List.mem_append.mp h with h | h
  · exact List.mem_range.mp (List.mem_filter.mp h).1
  · exact List.mem_range.mp (List.mem_filter.mp h).1
theorem starts_all {rs : List Road} {j : Nat} (h : j < rs.length) : j ∈ startsOf rs := by
  by_cases c : Bg rs j = none
  · exact List.mem_append_left _ (List.mem_filter.mpr ⟨List.mem_range.mpr h, decide_eq_true c⟩)
  · exact List.mem_append_right _ (List.mem_filter.mpr ⟨List.mem_range.mpr h, by rw [decide_eq_false c]; rfl⟩)
/-- doors come first -/
theorem starts_stage {rs : List Road} {i first : Nat} (h : (startsOf rs)[i]? = some first) : Bg rs first = none ∨ ∀ j, j < rs.length → Bg rs j = none → j ∈ (startsOf rs).take i := by
  by_cases c : i < (doorsTo rs rs.length).length
  · refine .inl ?_
    unfold startsOf at h
    rw [List.getElem?_append_left c] at h
    exact of_decide_eq_true (List.mem_filter.mp (List.mem_of_getElem? h)).2
  · refine .inr fun j hj e => ?_
    have hm : j ∈ doorsTo rs rs.length := List.mem_filter.mpr ⟨List.mem_range.mpr hj, decide_eq_true e⟩
    unfold startsOf
    rw [List.take_append]
    refine List.mem_append_left _ ?_
    rw [List.take_of_length_le (by omega)]
    exact hm
theorem take_more {l : List Nat} {i first j : Nat} (h : l[i]? = some first) (hj : j ∈ l.take (i + 1)) : j ∈ l.take i ∨ j = first := by
  rw [List.take_add_one, h] at hj
  rcases List.mem_append.mp hj with hj | hj
  · exact .inl hj
  · exact .inr (by simpa using hj)
section
variable {P : Program} {w : World} {K : PySem.W.Frag} {mg : Str → Option Value} {base : Heap}
/-! ### bundle -/
def sp_bundle (K : PySem.W.Frag) : Sp := fun vs H Q _ => ∃ (a b : Addr) (rs : List Road) (k : Nat) (stream : List Int), vs = [.ref a, .ref b] ∧ WebAt H a rs k ∧ H b = some (.tup (stream.map V.int)) ∧ stream.length = rs.length ∧ (∀ j, j < rs.length → 0 ≤ stream.getD j 0) ∧ Bal rs stream ∧
  ∀ (H' : Hp) (t : Addr) (as : List Addr) (rows : Rows), Same H H' → H t = none → H' t = some (.tup (as.map V.ref)) → RowsAt H' as rows → Bundle rs stream rows → Q (.ref t) H'
theorem ok_bundle {f f1 f2 : Addr} {fd fd1 fd2 : FuncData} (D : Df K mg "bundle" s_bundle P_bundle f fd) (T : Tx mg) (D_led_on : Df K mg "led_on" s_led_on P_led_on f1 fd1) (D_turned_round : Df K mg "turned_round" s_turned_round P_turned_round f2 fd2)
    (G_led_on : FnOk P w K mg base CX0 2 f1 fd1 P_led_on (sp_led_on K)) : FnOk P w K mg base CX0 3 f fd P_bundle (sp_bundle K) := by
  have G_turned_round : FnOk P w K mg base CX0 1 f2 fd2 P_turned_round (sp_turned_round K) := ok_turned_round D_turned_round T
  refine D.F.ok sc_bundle (fun vs H Q E h => ?_) (fun cdv A outer s H vs Q E hr h => ?_)
  · obtain ⟨a, b, rs, k, stream, rfl, _⟩ := h
    rfl
  · obtain ⟨a, b, rs, k, stream, rfl, W, hb, hbl, hnn, hbal, q⟩ := h
    obtain ⟨R, G, Tk, gs, hw, hR, hG, hk⟩ := W.at_
    obtain ⟨xs, hxs, hxl, hxa⟩ := hR.seq (K := K)
    have h20 := W.few
    refine ⟨_, pss_cons (ps_set (i := 2) sc_bundle.nd rfl (.inr rfl) (pe_callTy (lstOf (K := K)) (by rfl) T.list_ (by decide +kernel) (pa_cons (pv 1) pa_nil)))
        (pss_cons (ps_set (i := 3) sc_bundle.nd rfl (.inl rfl) (pe_lst pa_nil))
        (pss_cons (ps_setLc (i := 4) (own := [(("number" : Str), 9), (("road" : Str), 11)]) (g := gTup K 2 (gCons (gName 9) (gCons (gName 11) gNil))) rfl sc_bundle.nd rfl rfl (sw_true rfl rfl rfl (by decide +kernel)) (iE_ (K := K) (by rfl) T.enumerate (pa_cons (pe_ix (ixT (K := K)) (pv 0) pe_int (fun _ _ => rfl)) pa_nil)) (blkOk_by (own := [(("number" : Str), 9), (("road" : Str), 11)]) (N := N_bundle) (sc := defScope s_bundle) (by decide +kernel)) (fun _ _ _ _ _ => (gtup (K := K) rfl (pgs_cons (pg_name (i := 9) sc_bundle.nd rfl (.inl rfl)) (pgs_cons (pg_name (i := 11) sc_bundle.nd rfl (.inl rfl)) pgs_nil)))) (fun _ _ _ _ _ => (pts_one (pt_cmpR op_isN (pe_ix (ixT (K := K)) (pv 11) pe_int (fun _ _ => rfl)) pe_non (nomark _)))) (fun _ _ _ _ _ => (pv 9)))
        (pss_cons (ps_set (i := 4) sc_bundle.nd rfl (.inl rfl) (pe_op op_cat (pv 4) (pe_lc (own := [(("number" : Str), 9), (("road" : Str), 11)]) (g := gTup K 2 (gCons (gName 9) (gCons (gName 11) gNil))) rfl sc_bundle.nd (iE_ (K := K) (by rfl) T.enumerate (pa_cons (pe_ix (ixT (K := K)) (pv 0) pe_int (fun _ _ => rfl)) pa_nil)) (blkOk_by (own := [(("number" : Str), 9), (("road" : Str), 11)]) (N := N_bundle) (sc := defScope s_bundle) (by decide +kernel)) (fun _ _ _ _ _ => (gtup (K := K) rfl (pgs_cons (pg_name (i := 9) sc_bundle.nd rfl (.inl rfl)) (pgs_cons (pg_name (i := 11) sc_bundle.nd rfl (.inl rfl)) pgs_nil)))) (fun _ _ _ _ _ => (pts_one (pt_cmpR op_notN (pe_ix (ixT (K := K)) (pv 11) pe_int (fun _ _ => rfl)) pe_non (nomark _)))) (fun _ _ _ _ _ => (pv 9)))))
        (pss_cons (ps_for PassesOwn.never rfl (iList_ (K := K) (pv 4)) (pg_name (i := 5) sc_bundle.nd rfl (.inl rfl))
        (pss_one (ps_while PassesOwn.never (pt_cmpR op_gt (pe_ix (ixL (K := K)) (pv 2) (pv 5) (fun _ _ => rfl)) pe_int (nomark _))
        (pss_cons (ps_asg (pe_call G_led_on (hr.mono (by decide)) (by rfl) D_led_on.g D_led_on.F.kp D_led_on.b .nil pass0 (pa_cons (pv 0) (pa_cons (pv 2) (pa_cons (pv 5) pa_nil)))) (gtup (K := K) rfl (pgs_cons (pg_name (i := 6) sc_bundle.nd rfl (.inl rfl)) (pgs_cons (pg_name (i := 7) sc_bundle.nd rfl (.inl rfl)) pgs_nil))))
        (pss_cons (ps_set (i := 6) sc_bundle.nd rfl (.inl rfl) (pe_slice (slL (K := K)) (pv 6) (po_some (pv 7)) po_none))
        (pss_cons (ps_set (i := 8) sc_bundle.nd rfl (.inl rfl) (pe_callB (crMin (K := K) rfl) (by rfl) T.min (by decide +kernel) (pa_cons (pe_lc (own := [(("number" : Str), 9)]) (g := gName 9) (tt := tYes) rfl sc_bundle.nd (iList_ (K := K) (pv 6)) (blkOk_by (own := [(("number" : Str), 9)]) (N := N_bundle) (sc := defScope s_bundle) (by decide +kernel)) (fun _ _ _ _ _ => (pg_name (i := 9) sc_bundle.nd rfl (.inl rfl))) (fun _ _ _ _ _ => pts_nil) (fun _ _ _ _ _ => (pe_ix (ixL (K := K)) (pv 2) (pv 9) (fun _ _ => rfl)))) pa_nil)))
        (pss_cons (ps_for PassesOwn.never rfl (iList_ (K := K) (pv 6)) (pg_name (i := 9) sc_bundle.nd rfl (.inl rfl))
        (pss_one (ps_augS (pv 2) (pv 9) (getL (K := K)) (pv 8) ip_sub set_list)))
        (pss_cons (ps_set (i := 10) sc_bundle.nd rfl (.inl rfl) (pe_ifExp (pt_cmpR op_isN (pe_ix (ixT (K := K)) (pe_ix (ixT (K := K)) (pe_ix (ixT (K := K)) (pv 0) pe_int (fun _ _ => rfl)) (pe_ix (ixL (K := K)) (pv 6) (pe_un un_neg pe_int) (fun _ _ => rfl)) (fun _ _ => rfl)) pe_int (fun _ _ => rfl)) pe_non (nomark _)) (pe_callTy (tupOf (K := K)) (by rfl) T.tuple_ (by decide +kernel) (pa_cons (pv 6) pa_nil)) (pe_call G_turned_round (hr.mono (by decide)) (by rfl) D_turned_round.g D_turned_round.F.kp D_turned_round.b .nil pass0 (pa_cons (pv 6) pa_nil))))
        (pss_one (ps_expr (pe_bm PySem.F.plainAttrs_list PySem.F.slot_list_append PySem.F.type_list_append mt_append (pv 3) (pa_cons (pe_tup (pa_cons (pv 10) (pa_cons (pv 8) pa_nil))) pa_nil))))))))))))
        (pss_one (ps_ret (pe_callTy (tupOf (K := K)) (by rfl) T.tuple_ (by decide +kernel) (pa_cons (pv 3) pa_nil)))))))), ?_⟩
    -- bears = list(stream); found = []
    refine ⟨.ref b, rfl, b, _, rfl, .inr (SqT.of hb), fun Bd hBd => ?_⟩
    have s1 := (Same.refl H).new hBd (o := .lst (stream.map V.int))
    refine ⟨Nat.zero_le _, fun F hF => ?_⟩
    have s2 := s1.new hF (o := .lst [])
    have hB2 := up_other (o := .lst []) (upd_same (H := H) (a := Bd) (o := .lst (stream.map V.int))) hF
    have hF2 : upd (upd H Bd (.lst (stream.map V.int))) F (.lst []) F = some (.lst []) := upd_same
    have hF0 : H F = none := s1.free hF
    have hBF : Bd ≠ F := ne_of_none (upd_same (H := H) (a := Bd) (o := .lst (stream.map V.int))) hF
    generalize upd (upd H Bd (.lst (stream.map V.int))) F (.lst []) = H2 at *
    -- starts, the doors
    refine ⟨.ref a, rfl, a, _, 0, .ref R, rfl, rfl, SqT.of (s2 _ _ hw), at_nat (j := 0) rfl, R, xs, rfl, s2.seqT hxs, fun D1 hD1 => ?_⟩
    refine lc_it (walk_E (xs := xs)) (fun i H' => Same H2 H' ∧ H' D1 = some (.lst ((doorsTo rs i).map nV))) ⟨(Same.refl H2).new hD1, upd_same⟩ (fun i H' _ h => h.1.seqT (s2.seqT hxs)) (fun i v H3 H4 hi hp hy => ?_) (fun H3 hp => ?_)
    · obtain ⟨hs, hacc⟩ := hp
      obtain ⟨Tp, y0, y, rfl, hT, rfl, e0, e1⟩ := hy
      have e0 : some (V.int (i : Int)) = some y0 := e0
      cases e0
      have e1 : xs[i]? = some y := e1
      obtain ⟨d, r, rfl, hr_, hd⟩ := hxa i y e1
      have sT := hs.new hT (o := .tup [.int (i : Int), .ref d])
      have hacc2 := up_other (o := .tup [.int (i : Int), .ref d]) hacc hT
      refine ⟨Tp, _, rfl, SqT.of upd_same, rfl, _, _, rfl, _, _, rfl, rfl, rfl, ?_⟩
      refine ⟨.ref d, rfl, d, _, 0, oV r.b, rfl, rfl, SqT.of ((s2.trans sT) _ _ hd), at_nat (j := 0) rfl, rfl, _, rfl, ?_⟩
      rw [dec_non, ← Bg_at hr_, doorsTo_succ]
      by_cases c1 : Bg rs i = none
      · rw [decide_eq_true c1, if_pos c1]
        refine iteT ⟨nV i, rfl, _, hacc2, ?_, sT.put hD1, ?_⟩
        · rw [List.length_map]
          exact Nat.lt_of_le_of_lt (filter_len _ i) (small_lt (by omega))
        · rw [upd_same, List.map_append]
          rfl
      · rw [decide_eq_false c1, if_neg c1]
        exact iteF ⟨sT, hacc2⟩
    obtain ⟨s23, hD3⟩ := hp
    rw [hxl] at hD3
    have s3 := s2.trans s23
    have hB3 := s23 _ _ hB2
    have hF3 := s23 _ _ hF2
    -- starts, the others
    refine ⟨.ref D1, rfl, .ref a, rfl, a, _, 0, .ref R, rfl, rfl, SqT.of (s3 _ _ hw), at_nat (j := 0) rfl, R, xs, rfl, s3.seqT hxs, fun D2 hD2 => ?_⟩
    refine lc_it (walk_E (xs := xs)) (fun i H' => Same H3 H' ∧ H' D2 = some (.lst ((othersTo rs i).map nV))) ⟨(Same.refl H3).new hD2, upd_same⟩ (fun i H' _ h => h.1.seqT (s3.seqT hxs)) (fun i v H4 H5 hi hp hy => ?_) (fun H4 hp => ?_)
    · obtain ⟨hs, hacc⟩ := hp
      obtain ⟨Tp, y0, y, rfl, hT, rfl, e0, e1⟩ := hy
      have e0 : some (V.int (i : Int)) = some y0 := e0
      cases e0
      have e1 : xs[i]? = some y := e1
      obtain ⟨d, r, rfl, hr_, hd⟩ := hxa i y e1
      have sT := hs.new hT (o := .tup [.int (i : Int), .ref d])
      have hacc2 := up_other (o := .tup [.int (i : Int), .ref d]) hacc hT
      refine ⟨Tp, _, rfl, SqT.of upd_same, rfl, _, _, rfl, _, _, rfl, rfl, rfl, ?_⟩
      refine ⟨.ref d, rfl, d, _, 0, oV r.b, rfl, rfl, SqT.of ((s3.trans sT) _ _ hd), at_nat (j := 0) rfl, rfl, _, rfl, ?_⟩
      rw [dec_non, ← Bg_at hr_, othersTo_succ]
      by_cases c1 : Bg rs i = none
      · rw [decide_eq_true c1, if_pos c1]
        exact iteF ⟨sT, hacc2⟩
      · rw [decide_eq_false c1, if_neg c1]
        refine iteT ⟨nV i, rfl, _, hacc2, ?_, sT.put hD2, ?_⟩
        · rw [List.length_map]
          exact Nat.lt_of_le_of_lt (filter_len _ i) (small_lt (by omega))
        · rw [upd_same, List.map_append]
          rfl
    obtain ⟨s34, hD4⟩ := hp
    rw [hxl] at hD4
    have s4 := s3.trans s34
    have hD14 := s34 _ _ hD3
    have hll := filter_len (fun k => decide (Bg rs k = none)) rs.length
    have hlo := filter_len (fun k => !decide (Bg rs k = none)) rs.length
    refine ⟨D1, D2, _, _, rfl, rfl, hD14, hD4, ?_, fun S hS => ?_⟩
    · rw [List.length_map, List.length_map]
      exact small_of (Nat.le_trans (Nat.add_le_add hll hlo) (by omega))
    have e5 : (doorsTo rs rs.length).map nV ++ (othersTo rs rs.length).map nV = (startsOf rs).map nV := by
      unfold startsOf
      rw [List.map_append]
    rw [e5]
    have s5 := s4.new hS (o := .lst ((startsOf rs).map nV))
    have hS0 : H S = none := s4.free hS
    have hB4 := s34 _ _ hB3
    have hF4 := s34 _ _ hF3
    have hB5 := up_other (o := .lst ((startsOf rs).map nV)) hB4 hS
    have hF5 := up_other (o := .lst ((startsOf rs).map nV)) hF4 hS
    have hSB : S ≠ Bd := fun e => by rw [e, hB4] at hS; cases hS
    have hSF : S ≠ F := fun e => by rw [e, hF4] at hS; cases hS
    -- the loops
    let St1 : Nat → L2.St → Hp → Prop := fun i σ H' => ∃ (y6 y7 y8 y9 y10 : Option V) (bs : List Int) (as : List Addr) (rows : Rows) (y5 : Option V), σ = [some (.ref a), some (.ref b), some (.ref Bd), some (.ref F), some (.ref S), y5, y6, y7, y8, y9, y10, none] ∧ Same H H' ∧
      H' Bd = some (.lst (bs.map V.int)) ∧ H' F = some (.lst (as.map V.ref)) ∧ H' S = some (.lst ((startsOf rs).map nV)) ∧ RowsAt H' as rows ∧ Taken rs stream bs rows ∧ ∀ j, j ∈ (startsOf rs).take i → bs.getD j 0 ≤ 0
    refine ⟨.ref S, rfl, S, rfl, ⟨_, SqL.of upd_same⟩, for_list (K := K) (a := S) (xs := (startsOf rs).map nV) St1 ⟨none, none, none, none, none, stream, [], [], none, rfl, s5, hB5, hF5, upd_same, RowsAt.nil _, Taken.start hbl hnn hbal, fun j hj => by cases hj⟩ (fun i σ H' _ h => by
      obtain ⟨_, _, _, _, _, _, _, _, _, _, _, _, _, h, _⟩ := h
      exact SqL.of h) (fun i v σ H6 hv hp => ?_) (fun σ H6 hp => ?_)⟩
    · obtain ⟨y6, y7, y8, y9, y10, bs0, as0, rows0, y5, rfl, hs0, hB0, hF00, hS00, hrows0, ht0, hz0⟩ := hp
      obtain ⟨first, rfl, hfirst⟩ : ∃ first, v = nV first ∧ (startsOf rs)[i]? = some first := by
        rw [List.getElem?_map] at hv
        cases e : (startsOf rs)[i]? with
        | none =>
          rw [e] at hv
          cases hv
        | some j =>
          rw [e] at hv
          exact ⟨j, (Option.some.inj hv).symm, rfl⟩
      have hfl : first < rs.length := starts_lt (List.mem_of_getElem? hfirst)
      -- while
      refine ⟨fun m σ H' => ∃ (y6 y7 y8 y9 y10 : Option V) (bs : List Int) (as : List Addr) (rows : Rows), σ = [some (.ref a), some (.ref b), some (.ref Bd), some (.ref F), some (.ref S), some (nV first), y6, y7, y8, y9, y10, none] ∧ Same H H' ∧
        H' Bd = some (.lst (bs.map V.int)) ∧ H' F = some (.lst (as.map V.ref)) ∧ H' S = some (.lst ((startsOf rs).map nV)) ∧ RowsAt H' as rows ∧ Taken rs stream bs rows ∧ (∀ j, j ∈ (startsOf rs).take i → bs.getD j 0 ≤ 0) ∧ m = supTo bs rs.length,
        ⟨_, y6, y7, y8, y9, y10, bs0, as0, rows0, rfl, hs0, hB0, hF00, hS00, hrows0, ht0, hz0, rfl⟩, ?_⟩
      clear hs0 hB0 hF00 hS00 hrows0 ht0 hz0 hv
      rintro m σ H7 ⟨z6, z7, z8, z9, z10, bs, as, rows, rfl, hs, hB, hFF, hSS, hrows, ht, hz, rfl⟩
      have hbsl := ht.len
      refine ⟨.ref Bd, rfl, nV first, rfl, Bd, _, first, .int (bs.getD first 0), rfl, rfl, SqL.of hB, at_nat (map_int_at (by omega)), bs.getD first 0, 0, rfl, rfl, _, rfl, ?_⟩
      by_cases hpos : 0 < bs.getD first 0
      · rw [decide_eq_true hpos]
        refine iteT ⟨fun σ' H' => ∃ (y6 y7 y8 y9 y10 : Option V) (bs' : List Int) (as' : List Addr) (rows' : Rows), σ' = [some (.ref a), some (.ref b), some (.ref Bd), some (.ref F), some (.ref S), some (nV first), y6, y7, y8, y9, y10, none] ∧ Same H H' ∧
          H' Bd = some (.lst (bs'.map V.int)) ∧ H' F = some (.lst (as'.map V.ref)) ∧ H' S = some (.lst ((startsOf rs).map nV)) ∧ RowsAt H' as' rows' ∧ Taken rs stream bs' rows' ∧ (∀ j, j ∈ (startsOf rs).take i → bs'.getD j 0 ≤ 0) ∧ supTo bs' rs.length < supTo bs rs.length, fun σ' H' hN => ?_, ?_⟩
        · obtain ⟨y6, y7, y8, y9, y10, bs', as', rows', e, h1, h2, h3, h4, h5, h6, h7, h8⟩ := hN
          exact ⟨supTo bs' rs.length, h8, y6, y7, y8, y9, y10, bs', as', rows', e, h1, h2, h3, h4, h5, h6, h7, rfl⟩
        have hdoor : Bg rs first = none ∨ ∀ j, j < rs.length → Bg rs j = none → bs.getD j 0 ≤ 0 := (starts_stage hfirst).imp id fun h j hj e => hz j (h j hj e)
        -- row, at = led_on(web, bears, first)
        refine ⟨.ref a, rfl, .ref Bd, rfl, nV first, rfl, a, Bd, first, rs, k, bs, rfl, W.mono hs.tups, hB, hbsl, ht.nn, ht.bal, hfl, hpos, hdoor, fun H8 t l row n x s8 ht8 hl8 hT hL hlen cyc cpos => ?_⟩
        refine ⟨t, _, rfl, SqT.of hT, rfl, .ref l, _, rfl, nV n, _, rfl, rfl, ?_⟩
        -- row = row[at:]
        refine ⟨.ref l, rfl, nV n, rfl, (n : Int), rfl, l, _, rfl, SqL.of hL, fun p hp => ?_⟩
        have e9 : cutV (row.map nV) (some (n : Int)) none = (row.drop n).map nV := by rw [cut_from, List.map_drop]
        rw [e9]
        generalize hcy : row.drop n = cy at *
        have hcl : cy.length ≤ 9 := by
          rw [← hcy, List.length_drop]
          omega
        have s79 := s8.new hp (o := .lst (cy.map nV))
        have hP9 : upd H8 p (.lst (cy.map nV)) p = some (.lst (cy.map nV)) := upd_same
        have hp7 : H7 p = none := s8.free hp
        generalize upd H8 p (.lst (cy.map nV)) = H9 at *
        have s9 := hs.trans s79
        have hB9 := s79 _ _ hB
        -- many = min([bears[number] for number in row])
        refine ⟨.ref p, rfl, p, rfl, ⟨_, SqL.of hP9⟩, fun D3 hD3 => ?_⟩
        refine lc_list (K := K) (a := p) (xs := cy.map nV) (fun i H' => Same H9 H' ∧ H' D3 = some (.lst (((cy.take i).map fun j => bs.getD j 0).map V.int))) ⟨(Same.refl H9).new hD3, upd_same⟩ (fun i H' _ h => SqL.of (h.1 _ _ hP9)) (fun i v H' hv hp' => ?_) (fun H10 hp' => ?_)
        · obtain ⟨hs', hacc⟩ := hp'
          rw [List.getElem?_map] at hv
          cases ej : cy[i]? with
          | none =>
            rw [ej] at hv
            cases hv
          | some j =>
            rw [ej] at hv
            have hv : nV j = v := Option.some.inj hv
            subst hv
            have hj : j < bs.length := by
              rw [hbsl]
              exact cyc.lt j (List.mem_of_getElem? ej)
            refine ⟨rfl, .ref Bd, rfl, nV j, rfl, Bd, _, j, .int (bs.getD j 0), rfl, rfl, SqL.of (hs' _ _ hB9), at_nat (map_int_at hj), _, hacc, ?_, hs'.put hD3, ?_⟩
            · rw [List.length_map, List.length_map, List.length_take]
              exact small_lt (by omega)
            · rw [upd_same, List.take_add_one, ej, List.map_append, List.map_append]
              rfl
        obtain ⟨s910, hacc⟩ := hp'
        rw [List.length_map, List.take_length] at hacc
        refine ⟨D3, _, rfl, SqL.of hacc, by rw [List.length_map]; exact List.length_pos_iff.mpr cyc.ne, fun many hmem hle => ?_⟩
        have s10 := s9.trans s910
        have hB10 := s910 _ _ hB9
        have hP10 := s910 _ _ hP9
        have hF10 := s910 _ _ (s79 _ _ hFF)
        have hS10 := s910 _ _ (s79 _ _ hSS)
        have hrows10 := hrows.mono ((s79.trans s910).tups)
        have hBp : p ≠ Bd := fun e => by rw [e, hB] at hp7; cases hp7
        have hpF : p ≠ F := fun e => by rw [e, hFF] at hp7; cases hp7
        -- for number in row: bears[number] -= many
        refine ⟨.ref p, rfl, p, rfl, ⟨_, SqL.of hP10⟩, for_list (K := K) (a := p) (xs := cy.map nV) (fun j σ H' => ∃ z9, σ = [some (.ref a), some (.ref b), some (.ref Bd), some (.ref F), some (.ref S), some (nV first), some (.ref p), some (nV n), some (.int many), z9, z10, none] ∧ Same H H' ∧
          H' Bd = some (.lst ((addAll bs (cy.take j) (-many)).map V.int)) ∧ H' F = some (.lst (as.map V.ref)) ∧ H' S = some (.lst ((startsOf rs).map nV)) ∧ RowsAt H' as rows ∧ H' p = some (.lst (cy.map nV)))
          ⟨z9, rfl, s10, hB10, hF10, hS10, hrows10, hP10⟩ (fun j σ H' _ h => by
            obtain ⟨_, _, _, _, _, _, _, h⟩ := h
            exact SqL.of h) (fun j v σ H' hv hp' => ?_) (fun σ H11 hp' => ?_)⟩
        · obtain ⟨z9', rfl, hs', hB', hF', hS', hr', hP'⟩ := hp'
          rw [List.getElem?_map] at hv
          cases ej : cy[j]? with
          | none =>
            rw [ej] at hv
            cases hv
          | some c =>
            rw [ej] at hv
            have hv : nV c = v := Option.some.inj hv
            subst hv
            have hc : c < (addAll bs (cy.take j) (-many)).length := by
              rw [addAll_length, hbsl]
              exact cyc.lt c (List.mem_of_getElem? ej)
            refine ⟨.ref Bd, rfl, nV c, rfl, Bd, _, c, .int _, rfl, rfl, SqL.of hB', at_nat (map_int_at hc), .int many, rfl, _, _, rfl, rfl, Bd, _, c, c, rfl, rfl, hB', ixN_nat (by rw [List.length_map]; exact hc), ?_⟩
            refine ⟨some (nV c), rfl, hs'.put hBd, ?_, ?_, ?_, hr'.mono ((Tups.refl H').lst hB'), ?_⟩
            · rw [upd_same, addAll_take ej, ← map_set_int]
              rfl
            · rw [upd_ne hBF.symm]
              exact hF'
            · rw [upd_ne hSB]
              exact hS'
            · rw [upd_ne hBp]
              exact hP'
        obtain ⟨z9', rfl, hs11, hB11, hF11, hS11, hrows11, hP11⟩ := hp'
        rw [List.length_map, List.take_length] at hB11
        -- what the row bears
        have hmk : ∃ j, j ∈ cy ∧ bs.getD j 0 = many := by
          obtain ⟨j, hj, e⟩ := List.mem_map.mp hmem
          exact ⟨j, hj, e⟩
        have hmle : ∀ j, j ∈ cy → many ≤ bs.getD j 0 := fun j hj => hle _ (List.mem_map.mpr ⟨j, hj, rfl⟩)
        -- the end of a turn
        have fin : ∀ (H12 : Hp) (rt : Addr) (roads : List Nat), Same H11 H12 → H12 rt = some (.tup (roads.map nV)) → roads.Perm cy → WayOk rs roads → ∀ t2, H12 t2 = none →
            H12 F = some (.lst (as.map V.ref)) ∧ (as.map V.ref).length < sizeLine ∧ ∃ (y6 y7 y8 y9 y10 : Option V) (bs' : List Int) (as' : List Addr) (rows' : Rows), [some (V.ref a), some (.ref b), some (.ref Bd), some (.ref F), some (.ref S), some (nV first), some (.ref p), some (nV n), some (.int many), z9', some (.ref rt), none] = [some (.ref a), some (.ref b), some (.ref Bd), some (.ref F), some (.ref S), some (nV first), y6, y7, y8, y9, y10, none] ∧
              Same H (upd (upd H12 t2 (.tup [.ref rt, .int many])) F (.lst (as.map V.ref ++ [.ref t2]))) ∧ upd (upd H12 t2 (.tup [.ref rt, .int many])) F (.lst (as.map V.ref ++ [.ref t2])) Bd = some (.lst (bs'.map V.int)) ∧
              upd (upd H12 t2 (.tup [.ref rt, .int many])) F (.lst (as.map V.ref ++ [.ref t2])) F = some (.lst (as'.map V.ref)) ∧ upd (upd H12 t2 (.tup [.ref rt, .int many])) F (.lst (as.map V.ref ++ [.ref t2])) S = some (.lst ((startsOf rs).map nV)) ∧
              RowsAt (upd (upd H12 t2 (.tup [.ref rt, .int many])) F (.lst (as.map V.ref ++ [.ref t2]))) as' rows' ∧ Taken rs stream bs' rows' ∧ (∀ j, j ∈ (startsOf rs).take i → bs'.getD j 0 ≤ 0) ∧ supTo bs' rs.length < supTo bs rs.length := by
          intro H12 rt roads s12 hrt pm way t2 ht2
          obtain ⟨tk, less, zs⟩ := ht.more cyc cpos hmk hmle pm way
          have hF12 := s12 _ _ hF11
          have s13 := (hs11.trans s12).new ht2 (o := .tup [.ref rt, .int many])
          have hF13 := up_other (o := .tup [.ref rt, .int many]) hF12 ht2
          have hfew := ht.few
          refine ⟨hF12, ?_, _, _, _, _, _, addAll bs cy (-many), as ++ [t2], rows ++ [(roads, many)], rfl, s13.put hF0, ?_, ?_, ?_, ?_, tk, fun j hj => zs j (hz j hj) (starts_lt (List.mem_of_mem_take hj)), less⟩
          · rw [List.length_map, hrows.1]
            exact small_lt (by omega)
          · rw [upd_ne hBF]
            exact up_other (s12 _ _ hB11) ht2
          · rw [upd_same, List.map_append]
            rfl
          · rw [upd_ne hSF]
            exact up_other (s12 _ _ hS11) ht2
          · have tt : Tups H11 (upd (upd H12 t2 (.tup [.ref rt, .int many])) F (.lst (as.map V.ref ++ [.ref t2]))) := (s12.tups.new ht2).lst hF13
            have t12 : Tups H12 (upd (upd H12 t2 (.tup [.ref rt, .int many])) F (.lst (as.map V.ref ++ [.ref t2]))) := ((Tups.refl H12).new ht2).lst hF13
            have t13 : Tups (upd H12 t2 (.tup [.ref rt, .int many])) (upd (upd H12 t2 (.tup [.ref rt, .int many])) F (.lst (as.map V.ref ++ [.ref t2]))) := (Tups.refl _).lst hF13
            refine (hrows11.mono tt).app ⟨rfl, fun j a' p' ha hp'' => ?_⟩
            cases j with
            | zero =>
              have ha := Option.some.inj ha
              have hp'' := Option.some.inj hp''
              subst ha
              subst hp''
              exact ⟨rt, t13 _ _ upd_same, t12 _ _ hrt⟩
            | succ j => simp at ha
        -- roads
        obtain ⟨kl, hkl, hkm⟩ := last_of cyc.ne
        obtain ⟨dl, rdl, ysl, hrl, hysl, hydl, hdl, ebl, eel⟩ := (hR.mono hs11.tups).get (K := K) (cyc.lt kl hkm)
        have lastAt : atI (cy.map nV) (-1) = some (nV kl) := by
          obtain ⟨r, e⟩ : ∃ r, cy = r ++ [kl] := ⟨cy.dropLast, by
            have z : cy.getLast cyc.ne = kl := by
              rw [List.getLast?_eq_getLast cyc.ne] at hkl
              exact Option.some.inj hkl
            rw [← z, List.dropLast_concat_getLast]⟩
          rw [e, List.map_append]
          exact atI_last _ _
        refine ⟨.ref a, rfl, a, _, 0, .ref R, rfl, rfl, SqT.of (hs11 _ _ hw), at_nat (j := 0) rfl, .ref p, rfl, 1, rfl, p, _, -1, nV kl, rfl, rfl, SqL.of hP11, lastAt, R, ysl, _, .ref dl, rfl, rfl, hysl, hydl, dl, _, 1, oV rdl.e, rfl, rfl, SqT.of hdl, at_nat (j := 1) rfl, rfl, _, rfl, ?_⟩
        rw [eel, chain_last cyc.ch hkl, dec_non]
        cases x with
        | none =>
          rw [decide_eq_true rfl]
          refine iteT ⟨.ref p, rfl, p, _, rfl, .inl ⟨SqL.of hP11, fun rt hrt => ?_⟩⟩
          have s12 := (Same.refl H11).new hrt (o := .tup (cy.map nV))
          refine ⟨.ref F, rfl, .inl ⟨rfl, _, SqL.of (s12 _ _ hF11)⟩, .ref rt, rfl, .int many, rfl, by show 2 ≤ sizeLine; decide, fun t2 ht2 => ?_⟩
          obtain ⟨f1, f2, f3⟩ := fin _ rt cy s12 upd_same (List.Perm.refl _) ⟨none, cyc, fun z => absurd rfl z⟩ t2 ht2
          exact ⟨F, _, _, rfl, rfl, up_other f1 ht2, f2, f3⟩
        | some hh =>
          rw [decide_eq_false (fun z : (some hh : Option Nat) = none => by cases z)]
          refine iteF ⟨.ref p, rfl, p, cy, rfl, hP11, cyc.ne, by omega, fun H12 rt pre c1 q1 s12 hrtn hrt ecy hmin => ?_⟩
          refine ⟨.ref F, rfl, .inl ⟨rfl, _, SqL.of (s12 _ _ hF11)⟩, .ref rt, rfl, .int many, rfl, by show 2 ≤ sizeLine; decide, fun t2 ht2 => ?_⟩
          have pm : (c1 :: q1 ++ pre).Perm cy := by
            rw [ecy]
            exact List.perm_append_comm
          have way : WayOk rs (c1 :: q1 ++ pre) := by
            have cc := cyc
            rw [ecy] at cc
            obtain ⟨y, hy, cy2⟩ := cc.turn (by intro z; cases z) (List.cons_ne_nil c1 q1)
            refine ⟨y, cy2, fun _ k1 hk1 j hj => ?_⟩
            have e : c1 = k1 := Option.some.inj hk1
            rw [← e]
            exact hmin j (pm.mem_iff.mp hj)
          obtain ⟨f1, f2, f3⟩ := fin H12 rt _ s12 hrt pm way t2 ht2
          exact ⟨F, _, _, rfl, rfl, up_other f1 ht2, f2, f3⟩
      · rw [decide_eq_false hpos]
        refine iteF ⟨z6, z7, z8, z9, z10, bs, as, rows, some (nV first), rfl, hs, hB, hFF, hSS, hrows, ht, fun j hj => ?_⟩
        rcases take_more hfirst hj with h | h
        · exact hz j h
        · rw [h]
          omega
    · obtain ⟨y6, y7, y8, y9, y10, bs, as, rows, y5, rfl, hs, hB, hFF, hSS, hrows, ht, hz⟩ := hp
      rw [List.length_map, List.take_length] at hz
      refine ⟨.ref F, rfl, F, _, rfl, .inl ⟨SqL.of hFF, fun t htn => ?_⟩⟩
      exact q _ t as rows (hs.new htn) (hs.free htn) upd_same (hrows.mono ((Tups.refl _).new htn)) (ht.done hbl fun j hj => hz j (starts_all hj))
end
end U12

set_option Elab.async false
set_option linter.all false
set_option maxRecDepth 100000
set_option maxHeartbeats 4000000
namespace U12
open PySem PySem.Spec PyProof.Rows L2
/-! ### the deck: great cells at g, all cells at c, how many were mixed -/
structure DeckX (H : Hp) (d g c : Addr) (gs cs : List Int) (n : Int) : Prop where
  hd : H d = some (.lst [.ref g, .ref c, .int n])
  hg : H g = some (.lst (gs.map V.int))
  hc : H c = some (.lst (cs.map V.int))
  dg : d ≠ g
  cd : c ≠ d
  cg : c ≠ g
  gnn : ∀ x, x ∈ gs → 0 ≤ x
  cnn : ∀ x, x ∈ cs → 0 ≤ x
  ne : cs ≠ []
  few : cs.length ≤ 1000
  nn : 0 ≤ n
/-- where the deck, its great cells and all its cells lie -/
structure Dec where
  d : Addr
  g : Addr
  c : Addr
def DeckAt (H : Hp) (z : Dec) (m : Nat) : Prop := ∃ gs cs n, DeckX H z.d z.g z.c gs cs n ∧ n ≤ (m : Int)
theorem DeckX.same {H H' : Hp} {d g c : Addr} {gs cs : List Int} {n : Int} (x : DeckX H d g c gs cs n) (s : Same H H') : DeckX H' d g c gs cs n :=
  ⟨s _ _ x.hd, s _ _ x.hg, s _ _ x.hc, x.dg, x.cd, x.cg, x.gnn, x.cnn, x.ne, x.few, x.nn⟩
theorem DeckAt.same {H H' : Hp} {z : Dec} {m : Nat} (x : DeckAt H z m) (s : Same H H') : DeckAt H' z m := by
  obtain ⟨gs, cs, n, x, h⟩ := x
  exact ⟨gs, cs, n, x.same s, h⟩
theorem DeckAt.mono {H : Hp} {z : Dec} {m k : Nat} (x : DeckAt H z m) (h : m ≤ k) : DeckAt H z k := by
  obtain ⟨gs, cs, n, x, h1⟩ := x
  exact ⟨gs, cs, n, x, by omega⟩
/-- a list that is no part of the deck -/
def Off (z : Dec) (p : Addr) : Prop := p ≠ z.d ∧ p ≠ z.g ∧ p ≠ z.c
theorem DeckAt.off {H : Hp} {z : Dec} {p : Addr} {m : Nat} (x : DeckAt H z m) (h : H p = none) : Off z p := by
  obtain ⟨gs, cs, n, x, h1⟩ := x
  exact ⟨(ne_of_none x.hd h).symm, (ne_of_none x.hg h).symm, (ne_of_none x.hc h).symm⟩
theorem DeckAt.offT {H : Hp} {z : Dec} {p : Addr} {m : Nat} {xs : List V} (x : DeckAt H z m) (h : H p = some (.tup xs)) : Off z p := by
  obtain ⟨gs, cs, n, x, h1⟩ := x
  exact ⟨ne_of h x.hd (by intro z; cases z), ne_of h x.hg (by intro z; cases z), ne_of h x.hc (by intro z; cases z)⟩
theorem DeckAt.put {H : Hp} {z : Dec} {p : Addr} {m : Nat} {o : HO} (x : DeckAt H z m) (n : Off z p) : DeckAt (upd H p o) z m := by
  obtain ⟨gs, cs, k, y, h1⟩ := x
  refine ⟨gs, cs, k, ⟨?_, ?_, ?_, y.dg, y.cd, y.cg, y.gnn, y.cnn, y.ne, y.few, y.nn⟩, h1⟩
  · rw [upd_ne n.1.symm]
    exact y.hd
  · rw [upd_ne n.2.1.symm]
    exact y.hg
  · rw [upd_ne n.2.2.symm]
    exact y.hc
/-- from H on, the deck alone was changed; m times it was mixed in all -/
structure Go (z : Dec) (H H' : Hp) (m : Nat) : Prop where
  was : ∃ m0, DeckAt H z m0
  dk : DeckAt H' z m
  kp : Keep z.d z.g H H'
theorem Go.refl {z : Dec} {H : Hp} {m : Nat} (x : DeckAt H z m) : Go z H H m := ⟨⟨m, x⟩, x, Keep.refl _ _ _⟩
theorem Go.trans {z : Dec} {H H1 H2 : Hp} {m m' : Nat} (a : Go z H H1 m) (b : Go z H1 H2 m') : Go z H H2 m' := ⟨a.was, b.dk, a.kp.trans b.kp⟩
theorem Go.mono {z : Dec} {H H1 : Hp} {m m' : Nat} (a : Go z H H1 m) (h : m ≤ m') : Go z H H1 m' := ⟨a.was, a.dk.mono h, a.kp⟩
theorem Go.new {z : Dec} {H H' : Hp} {m : Nat} {p : Addr} {o : HO} (a : Go z H H' m) (h : H' p = none) : Go z H (upd H' p o) m := ⟨a.was, a.dk.put (a.dk.off h), a.kp.new h⟩
theorem Go.off {z : Dec} {H H' : Hp} {m : Nat} {p : Addr} (a : Go z H H' m) (h : H' p = none) : Off z p := a.dk.off h
theorem Go.free {z : Dec} {H H' : Hp} {m : Nat} {p : Addr} (a : Go z H H' m) (h : H' p = none) : H p = none := by
  obtain ⟨n1, n2, _⟩ := a.off h
  cases e : H p with
  | none => rfl
  | some o =>
    rw [a.kp p o n1 n2 e] at h
    cases h
theorem Go.put {z : Dec} {H H' : Hp} {m : Nat} {p : Addr} {o : HO} (a : Go z H H' m) (h : H p = none) : Go z H (upd H' p o) m := by
  obtain ⟨m0, x⟩ := a.was
  exact ⟨⟨m0, x⟩, a.dk.put (x.off h), a.kp.put h⟩
theorem Go.lst {z : Dec} {H H' : Hp} {m : Nat} {p : Addr} {o : HO} (a : Go z H H' m) (n : Off z p) (h : H p = some o) : H' p = some o := a.kp _ _ n.1 n.2.1 h
theorem Go.tups {z : Dec} {H H' : Hp} {m : Nat} (a : Go z H H' m) : Tups H H' := fun p xs h => by
  obtain ⟨m0, x⟩ := a.was
  exact a.lst (x.offT h) h
theorem Go.of {z : Dec} {H H' : Hp} {m : Nat} (x : DeckAt H z m) (s : Same H H') : Go z H H' m := ⟨⟨m, x⟩, x.same s, s.keep⟩
theorem map_abs (ns : List Int) : ∀ x, x ∈ ns.map (fun i : Int => if i < 0 then -i else i) → 0 ≤ x := fun x hx => by
  obtain ⟨i, _, rfl⟩ := List.mem_map.mp hx
  split <;> omega
section
variable {P : Program} {w : World} {K : PySem.W.Frag} {mg : Str → Option Value} {base : Heap}
/-! ### _law_deck -/
def sp_deck (K : PySem.W.Frag) : Sp := fun vs H Q _ => ∃ (a : Addr) (ns : List Int), vs = [.ref a] ∧ SqL K H a (ns.map V.int) ∧ ns.length ≤ 63 ∧ ∀ (H' : Hp) (z : Dec), Same H H' → H z.d = none → DeckAt H' z 0 → Q (.ref z.d) H'
theorem ok_deck {f : Addr} {fd : FuncData} (D : Df K mg "_law_deck" s__law_deck P__law_deck f fd) (T : Tx mg) : FnOk P w K mg base CX0 1 f fd P__law_deck (sp_deck K) := by
  refine D.F.ok sc__law_deck (fun vs H Q E h => ?_) (fun cdv A outer s H vs Q E hr h => ?_)
  · obtain ⟨a, ns, rfl, _⟩ := h
    rfl
  · obtain ⟨a, ns, rfl, hS, hlen, q⟩ := h
    refine ⟨_, pss_cons (ps_setLc (i := 1) (own := [(("_law_cell" : Str), 2)]) (g := gName 2) (tt := tYes) rfl sc__law_deck.nd rfl rfl (sw_true rfl rfl rfl (by decide +kernel)) (iList_ (K := K) (pv 0)) (blkOk_by (own := [(("_law_cell" : Str), 2)]) (N := N__law_deck) (sc := defScope s__law_deck) (by decide +kernel)) (fun _ _ _ _ _ => (pg_name (i := 2) sc__law_deck.nd rfl (.inl rfl))) (fun _ _ _ _ _ => pts_nil) (fun _ _ _ _ _ => (pe_callB call_abs (by rfl) T.abs (by decide +kernel) (pa_cons (pv 2) pa_nil))))
        (pss_one (ps_ret (pe_lst (pa_cons (pe_lc (own := [(("_law_cell" : Str), 2)]) (g := gName 2) rfl sc__law_deck.nd (iList_ (K := K) (pv 1)) (blkOk_by (own := [(("_law_cell" : Str), 2)]) (N := N__law_deck) (sc := defScope s__law_deck) (by decide +kernel)) (fun _ _ _ _ _ => (pg_name (i := 2) sc__law_deck.nd rfl (.inl rfl))) (fun _ _ _ _ _ => (pts_one (pt_cmpR op_ge (pv 2) (pe_op op_pow pe_int pe_int) (nomark _)))) (fun _ _ _ _ _ => (pv 2))) (pa_cons (pe_op op_cat (pv 1) (pe_lst (pa_cons (pe_op op_add (pe_callB (lenS (K := K)) (by rfl) T.len PySem.boot_len (pa_cons (pv 1) pa_nil)) pe_int) pa_nil))) (pa_cons pe_int pa_nil)))))), ?_⟩
    -- cells
    refine ⟨.ref a, rfl, a, rfl, ⟨_, hS⟩, fun D1 hD1 => ?_⟩
    refine lc_list (K := K) (a := a) (xs := ns.map V.int) (fun i H' => Same H H' ∧ H' D1 = some (.lst (((ns.take i).map (fun i : Int => if i < 0 then -i else i)).map V.int))) ⟨(Same.refl H).new hD1, upd_same⟩ (fun i H' _ h => h.1.seq hS) (fun i v H1 hv hp => ?_) (fun H1 hp => ?_)
    · obtain ⟨hs, hacc⟩ := hp
      rw [List.getElem?_map] at hv
      cases e : ns[i]? with
      | none =>
        rw [e] at hv
        cases hv
      | some z =>
        rw [e] at hv
        have hv : V.int z = v := Option.some.inj hv
        subst hv
        refine ⟨rfl, .int z, rfl, z, rfl, _, hacc, ?_, hs.put hD1, ?_⟩
        · rw [List.length_map, List.length_map, List.length_take]
          exact small_lt (by omega)
        · rw [upd_same, List.take_add_one, e, List.map_append, List.map_append]
          rfl
    obtain ⟨s1, hC⟩ := hp
    rw [List.length_map, List.take_length] at hC
    generalize hcells : ns.map (fun i : Int => if i < 0 then -i else i) = cells at hC
    have hcnn : ∀ x, x ∈ cells → 0 ≤ x := by
      rw [← hcells]
      exact map_abs ns
    have hcl : cells.length = ns.length := by rw [← hcells, List.length_map]
    -- the great ones
    refine ⟨.ref D1, rfl, D1, rfl, ⟨_, SqL.of hC⟩, fun g hg => ?_⟩
    refine lc_list (K := K) (a := D1) (xs := cells.map V.int) (fun i H' => Same H1 H' ∧ ∃ gs : List Int, H' g = some (.lst (gs.map V.int)) ∧ gs.length ≤ i ∧ ∀ x, x ∈ gs → 0 ≤ x) ⟨(Same.refl H1).new hg, [], upd_same, Nat.le_refl 0, (fun x hx => nomatch hx)⟩ (fun i H' _ h => SqL.of (h.1 _ _ hC)) (fun i v H2 hv hp => ?_) (fun H2 hp => ?_)
    · obtain ⟨hs, gs, hacc, hgl, hgn⟩ := hp
      rw [List.getElem?_map] at hv
      cases e : cells[i]? with
      | none =>
        rw [e] at hv
        cases hv
      | some z =>
        rw [e] at hv
        have hv : V.int z = v := Option.some.inj hv
        subst hv
        have hi : i < cells.length := (List.getElem?_eq_some_iff.mp e).1
        refine ⟨rfl, .int z, rfl, 10, 18, rfl, rfl, ⟨by decide, by decide, by decide⟩, z, _, rfl, rfl, _, rfl, ite2 (fun _ => ?_) fun _ => ?_⟩
        · refine ⟨.int z, rfl, _, hacc, ?_, hs.put hg, gs ++ [z], ?_, ?_, fun x hx => ?_⟩
          · rw [List.length_map]
            exact small_lt (by omega)
          · rw [upd_same, List.map_append]
            rfl
          · rw [List.length_append, List.length_singleton]
            omega
          · rcases List.mem_append.mp hx with hx | hx
            · exact hgn x hx
            · rw [List.mem_singleton.mp hx]
              exact hcnn z (List.mem_of_getElem? e)
        · exact ⟨hs, gs, hacc, by omega, hgn⟩
    obtain ⟨s2, gs, hG, hgl, hgn⟩ := hp
    have hC2 := s2 _ _ hC
    -- cells + [len(cells) + 5]
    refine ⟨.ref D1, rfl, .ref D1, rfl, D1, _, rfl, .inl (SqL.of hC2), _, 5, rfl, rfl, by show 1 ≤ sizeLine; decide, fun p1 hp1 => ?_⟩
    have hC3 := up_other (o := .lst [V.int (((cells.map V.int).length : Nat) + 5)]) hC2 hp1
    have hG3 := up_other (o := .lst [V.int (((cells.map V.int).length : Nat) + 5)]) hG hp1
    have s3 := (s1.trans s2).new hp1 (o := .lst [V.int (((cells.map V.int).length : Nat) + 5)])
    refine ⟨D1, p1, _, _, rfl, rfl, hC3, upd_same, by rw [List.length_map]; exact small_of (by simp only [List.length_singleton]; omega), fun c hc => ?_⟩
    have hG4 := up_other (o := .lst (cells.map V.int ++ [V.int (((cells.map V.int).length : Nat) + 5)])) hG3 hc
    have s4 := s3.new hc (o := .lst (cells.map V.int ++ [V.int (((cells.map V.int).length : Nat) + 5)]))
    refine ⟨by show 3 ≤ sizeLine; decide, fun d hd => ?_⟩
    have hG5 := up_other (o := .lst [V.ref g, .ref c, .int 0]) hG4 hd
    have hc5 := up_other (o := .lst [V.ref g, .ref c, .int 0]) (upd_same (H := upd H2 p1 (.lst [V.int (((cells.map V.int).length : Nat) + 5)])) (a := c) (o := .lst (cells.map V.int ++ [V.int (((cells.map V.int).length : Nat) + 5)]))) hd
    have s5 := s4.new hd (o := .lst [V.ref g, .ref c, .int 0])
    refine q _ ⟨d, g, c⟩ s5 (s4.free hd) ⟨gs, cells ++ [((((cells.map V.int).length : Nat) : Int) + 5)], 0, ⟨upd_same, hG5, ?_, ?_, ?_, ?_, hgn, fun x hx => ?_, by simp, ?_, Int.le_refl 0⟩, Int.le_refl 0⟩
    · rw [hc5, List.map_append]
      rfl
    · exact (ne_of_none hG4 hd).symm
    · exact ne_of_none upd_same hd
    · exact (ne_of_none hG3 hc).symm
    · rcases List.mem_append.mp hx with hx | hx
      · exact hcnn x hx
      · rw [List.mem_singleton.mp hx]
        omega
    · rw [List.length_append, List.length_singleton]
      omega
/-! ### _law_next -/
def sp_next (K : PySem.W.Frag) : Sp := fun vs H Q _ => ∃ (z : Dec) (many : Int) (m : Nat), vs = [.ref z.d, .int many] ∧ DeckAt H z m ∧ m ≤ 1000000 ∧ 1 ≤ many ∧ many.natAbs < 2 ^ 64 ∧
  ∀ (H' : Hp) (r : Int), 0 ≤ r → r < many → Go z H H' (m + 1) → Q (.int r) H'
theorem ok_next {f : Addr} {fd : FuncData} (D : Df K mg "_law_next" s__law_next P__law_next f fd) (T : Tx mg) : FnOk P w K mg base CX0 1 f fd P__law_next (sp_next K) := by
  refine D.F.ok sc__law_next (fun vs H Q E h => ?_) (fun cdv A outer s H vs Q E hr h => ?_)
  · obtain ⟨z, many, m, rfl, _⟩ := h
    rfl
  · obtain ⟨⟨d, g, c⟩, many, m, rfl, ⟨gs0, cs, n, x0, hnm⟩, hm, h1, h64, q⟩ := h
    dsimp only at *
    have was : ∃ m0, DeckAt H ⟨d, g, c⟩ m0 := ⟨m, gs0, cs, n, x0, hnm⟩
    refine ⟨_, pss_cons (ps_while PassesOwn.never (pt_cmpR (neD (K := K) hr.units) (pe_ix (ixL (K := K)) (pv 0) pe_int (fun _ _ => rfl)) (pe_lst pa_nil) (nomark _))
        (pss_cons (ps_set (i := 2) sc__law_next.nd rfl (.inl rfl) (pe_ix (ixL (K := K)) (pe_ix (ixL (K := K)) (pv 0) pe_int (fun _ _ => rfl)) pe_int (fun _ _ => rfl)))
        (pss_cons (ps_if (pt_cmpR op_gt (pv 2) pe_int (nomark _))
        (pss_cons (ps_asg (pe_op op_fdivW (pv 2) (pv 1)) (pg_sub (pe_ix (ixL (K := K)) (pv 0) pe_int (fun _ _ => rfl)) pe_int set_list))
        (pss_one (ps_ret (pe_op op_mod (pv 2) (pv 1)))))
        pss_nil)
        (pss_one (ps_expr (pe_bm PySem.F.plainAttrs_list PySem.F.slot_list_pop PySem.F.type_list_pop mt_popAt (pe_ix (ixL (K := K)) (pv 0) pe_int (fun _ _ => rfl)) (pa_cons pe_int pa_nil)))))))
        (pss_cons (ps_asg (pe_op op_add (pe_ix (ixL (K := K)) (pv 0) pe_int (fun _ _ => rfl)) pe_int) (pg_sub (pv 0) pe_int set_list))
        (pss_cons (ps_set (i := 3) sc__law_next.nd rfl (.inl rfl) (pe_op op_mod (pe_ix (ixL (K := K)) (pe_ix (ixL (K := K)) (pv 0) pe_int (fun _ _ => rfl)) (pe_op op_mod (pe_ix (ixL (K := K)) (pv 0) pe_int (fun _ _ => rfl)) (pe_callB (lenS (K := K)) (by rfl) T.len PySem.boot_len (pa_cons (pe_ix (ixL (K := K)) (pv 0) pe_int (fun _ _ => rfl)) pa_nil))) (fun _ _ => rfl)) pe_int))
        (pss_cons (ps_set (i := 4) sc__law_next.nd rfl (.inl rfl) (pe_op op_add (pe_op op_add (pe_op op_mul (pv 3) (pe_op op_add pe_int (pe_op op_mul pe_int (pe_ix (ixL (K := K)) (pv 0) pe_int (fun _ _ => rfl))))) (pe_op op_mul (pe_op op_mul pe_int (pe_ix (ixL (K := K)) (pv 0) pe_int (fun _ _ => rfl))) (pe_ix (ixL (K := K)) (pv 0) pe_int (fun _ _ => rfl)))) pe_int))
        (pss_cons (ps_set (i := 4) sc__law_next.nd rfl (.inl rfl) (pe_op op_mod (pv 4) pe_int))
        (pss_one (ps_ret (pe_op op_mod (pe_op op_fdiv (pe_op op_mod (pe_op op_mul (pv 4) (pv 4)) pe_int) pe_int) (pv 1)))))))), ?_⟩
    refine ⟨fun l σ H' => ∃ (gs : List Int) (y2 : Option V), l = gs.length ∧ σ = [some (.ref d), some (.int many), y2, none, none] ∧ Keep d g H H' ∧ DeckX H' d g c gs cs n, ⟨gs0.length, gs0, none, rfl, rfl, Keep.refl d g H, x0⟩, ?_⟩
    rintro l σ H1 ⟨gs, y2, rfl, rfl, kp, x⟩
    -- deck[0] != []
    refine ⟨.ref d, rfl, d, _, 0, .ref g, rfl, rfl, SqL.of x.hd, at_nat (j := 0) rfl, Nat.zero_le _, fun p hp => ?_⟩
    have x2 := x.same ((Same.refl H1).new hp (o := .lst []))
    have kp2 := kp.new hp (o := .lst [])
    refine ⟨_, _, .lst (SqL.of x2.hg) (dp_i gs), .lst (SqL.of upd_same) .nil, shaped_iL gs, rfl, _, rfl, ?_⟩
    have e1 : PyData.eqv (.list (gs.map PyData.int)) (.list []) = decide (gs = []) := eqv_ints gs []
    rw [e1]
    generalize upd H1 p (.lst []) = H2 at *
    cases gs with
    | cons z gr =>
      refine iteT ⟨fun σ' H' => ∃ (y2 : Option V), σ' = [some (.ref d), some (.int many), y2, none, none] ∧ Keep d g H H' ∧ DeckX H' d g c gr cs n, fun σ' H' hN => ?_, ?_⟩
      · obtain ⟨y2, e, k', x'⟩ := hN
        exact ⟨gr.length, Nat.lt_succ_self _, gr, y2, rfl, e, k', x'⟩
      have hz0 := x2.gnn z List.mem_cons_self
      refine ⟨.ref d, rfl, d, _, 0, .ref g, rfl, rfl, SqL.of x2.hd, at_nat (j := 0) rfl, g, _, 0, .int z, rfl, rfl, SqL.of x2.hg, at_nat (j := 0) rfl, ?_⟩
      refine ⟨.int z, rfl, z, 0, rfl, rfl, _, rfl, ite2 (fun hz => ?_) fun hz => ?_⟩
      · have hz := of_decide_eq_true hz
        refine ⟨.int z, rfl, .int many, rfl, z, many, rfl, rfl, wide_div (by omega) h64 (by decide) (by decide), ?_⟩
        refine ⟨.ref d, rfl, d, _, 0, .ref g, rfl, rfl, SqL.of x2.hd, at_nat (j := 0) rfl, g, _, 0, 0, rfl, rfl, x2.hg, ixN_nat (j := 0) (by rw [List.length_map]; exact Nat.succ_pos _), ?_⟩
        refine ⟨.int z, rfl, .int many, rfl, z, many, rfl, rfl, by omega, ?_⟩
        refine q _ _ (Int.emod_nonneg z (by omega)) (Int.emod_lt_of_pos z (by omega)) ⟨was, ⟨(z / many) :: gr, cs, n, ⟨?_, ?_, ?_, x2.dg, x2.cd, x2.cg, fun y hy => ?_, x2.cnn, x2.ne, x2.few, x2.nn⟩, by omega⟩, fun a o n1 n2 ho => ?_⟩
        · rw [upd_ne x2.dg]
          exact x2.hd
        · rw [upd_same]
          rfl
        · rw [upd_ne x2.cg]
          exact x2.hc
        · rcases List.mem_cons.mp hy with e | hy
          · rw [e]
            exact Int.ediv_nonneg hz0 (by omega)
          · exact x2.gnn y (List.mem_cons_of_mem _ hy)
        · rw [upd_ne n2]
          exact kp2 a o n1 n2 ho
      · refine ⟨.ref d, rfl, d, _, 0, .ref g, rfl, rfl, SqL.of x2.hd, at_nat (j := 0) rfl, .inl ⟨rfl, _, SqL.of x2.hg⟩, g, _, 0, 0, .int z, rfl, rfl, x2.hg, by decide, by decide, seqIndex_of (by decide) (by rw [List.length_map, List.length_cons]; omega), rfl, ?_⟩
        refine ⟨_, rfl, fun a o n1 n2 ho => ?_, ?_, ?_, ?_, x2.dg, x2.cd, x2.cg, fun y hy => x2.gnn y (List.mem_cons_of_mem _ hy), x2.cnn, x2.ne, x2.few, x2.nn⟩
        · rw [upd_ne n2]
          exact kp2 a o n1 n2 ho
        · rw [upd_ne x2.dg]
          exact x2.hd
        · rw [upd_same]
          rfl
        · rw [upd_ne x2.cg]
          exact x2.hc
    | nil =>
      refine iteF ?_
      -- deck[2] = deck[2] + 1
      refine ⟨.ref d, rfl, d, _, 2, .int n, rfl, rfl, SqL.of x2.hd, at_nat (j := 2) rfl, n, 1, rfl, rfl, .ref d, rfl, d, _, 2, 2, rfl, rfl, x2.hd, rfl, ?_⟩
      have hd3 : upd H2 d (.lst ([V.ref g, .ref c, .int n].set 2 (.int (n + 1)))) d = some (.lst [V.ref g, .ref c, .int (n + 1)]) := upd_same
      have hc3 : upd H2 d (.lst ([V.ref g, .ref c, .int n].set 2 (.int (n + 1)))) c = some (.lst (cs.map V.int)) := by
        rw [upd_ne x2.cd]
        exact x2.hc
      have hg3 : upd H2 d (.lst ([V.ref g, .ref c, .int n].set 2 (.int (n + 1)))) g = some (.lst (([] : List Int).map V.int)) := by
        rw [upd_ne x2.dg.symm]
        exact x2.hg
      have kp3 : Keep d g H (upd H2 d (.lst ([V.ref g, .ref c, .int n].set 2 (.int (n + 1))))) := fun a o n1 n2 ho => by
        rw [upd_ne n1]
        exact kp2 a o n1 n2 ho
      generalize upd H2 d (.lst ([V.ref g, .ref c, .int n].set 2 (.int (n + 1)))) = H3 at *
      have hpos : 0 < cs.length := List.length_pos_iff.mpr x2.ne
      have hnn := x2.nn
      have i0 : 0 ≤ (n + 1) % (((cs.map V.int).length : Nat) : Int) := Int.emod_nonneg _ (by rw [List.length_map]; omega)
      have i1 : (n + 1) % (((cs.map V.int).length : Nat) : Int) < (((cs.map V.int).length : Nat) : Int) := Int.emod_lt_of_pos _ (by rw [List.length_map]; omega)
      obtain ⟨j, hj⟩ := Int.eq_ofNat_of_zero_le i0
      rw [hj, List.length_map] at i1
      have hjl : j < cs.length := by omega
      -- cell
      refine ⟨.ref d, rfl, d, _, 1, .ref c, rfl, rfl, SqL.of hd3, at_nat (j := 1) rfl, .ref d, rfl, d, _, 2, .int (n + 1), rfl, rfl, SqL.of hd3, at_nat (j := 2) rfl, .ref d, rfl, d, _, 1, .ref c, rfl, rfl, SqL.of hd3, at_nat (j := 1) rfl, c, _, rfl, .inl (SqL.of hc3), n + 1, _, rfl, rfl, by rw [List.length_map]; omega, c, _, _, .int (cs.getD j 0), rfl, rfl, SqL.of hc3, by rw [hj]; exact at_nat (map_int_at hjl), cs.getD j 0, 2147483647, rfl, rfl, (show (0 : Int) < 2147483647 by decide), ?_⟩
      have c0 : 0 ≤ cs.getD j 0 % 2147483647 := Int.emod_nonneg _ (by decide)
      have c1 : cs.getD j 0 % 2147483647 < 2147483647 := Int.emod_lt_of_pos _ (by decide)
      have cellw : (cs.getD j 0 % 2147483647).natAbs < 2 ^ 31 := by omega
      -- mixed
      refine ⟨.int (cs.getD j 0 % 2147483647), rfl, .ref d, rfl, d, _, 2, .int (n + 1), rfl, rfl, SqL.of hd3, at_nat (j := 2) rfl, 40692, n + 1, rfl, rfl, .inl ⟨by decide, by decide⟩, 48271, _, rfl, rfl, cs.getD j 0 % 2147483647, _, rfl, rfl, .inl ⟨by omega, by omega⟩, ?_⟩
      refine ⟨.ref d, rfl, d, _, 2, .int (n + 1), rfl, rfl, SqL.of hd3, at_nat (j := 2) rfl, 69621, n + 1, rfl, rfl, .inl ⟨by decide, by decide⟩, .ref d, rfl, d, _, 2, .int (n + 1), rfl, rfl, SqL.of hd3, at_nat (j := 2) rfl, _, n + 1, rfl, rfl, .inr ⟨by omega, by omega⟩, _, _, rfl, rfl, _, 13, rfl, rfl, ?_⟩
      refine ⟨.int _, rfl, _, 2147483629, rfl, rfl, (show (0 : Int) < 2147483629 by decide), ?_⟩
      refine ⟨.int _, rfl, .int _, rfl, _, _, rfl, rfl, .inl ⟨?_, ?_⟩, _, 2147483587, rfl, rfl, (show (0 : Int) < 2147483587 by decide), _, 16, rfl, rfl, ⟨by decide, by decide⟩, .int many, rfl, _, many, rfl, rfl, by omega, ?_⟩
      · have m0 := Int.emod_nonneg
        omega
      · omega
      exact q H3 _ (Int.emod_nonneg _ (by omega)) (Int.emod_lt_of_pos _ (by omega)) ⟨was, ⟨[], cs, n + 1, ⟨hd3, hg3, hc3, x2.dg, x2.cd, x2.cg, (fun y hy => nomatch hy), x2.cnn, x2.ne, x2.few, by omega⟩, by omega⟩, kp3⟩
end
end U12

set_option Elab.async false
set_option linter.all false
set_option maxRecDepth 100000
set_option maxHeartbeats 4000000
namespace U12
open PySem PySem.Spec PyProof.Rows L2
section
variable {P : Program} {w : World} {K : PySem.W.Frag} {mg : Str → Option Value} {base : Heap}
/-! ### _law_one -/
def sp_one (K : PySem.W.Frag) : Sp := fun vs H Q _ => ∃ (z : Dec) (l : Addr) (xs : List V) (m : Nat), vs = [.ref z.d, .ref l] ∧ DeckAt H z m ∧ m ≤ 1000000 ∧ H l = some (.lst xs) ∧ Off z l ∧ 1 ≤ xs.length ∧ xs.length ≤ 1000 ∧
  ∀ (H' : Hp) (v : V), v ∈ xs → Go z H H' (m + 1) → Q v H'
theorem ok_one {f f1 : Addr} {fd fd1 : FuncData} (D : Df K mg "_law_one" s__law_one P__law_one f fd) (T : Tx mg) (D__law_next : Df K mg "_law_next" s__law_next P__law_next f1 fd1) (G__law_next : FnOk P w K mg base CX0 1 f1 fd1 P__law_next (sp_next K)) :
    FnOk P w K mg base CX0 2 f fd P__law_one (sp_one K) := by
  refine D.F.ok sc__law_one (fun vs H Q E h => ?_) (fun cdv A outer s H vs Q E hr h => ?_)
  · obtain ⟨z, l, xs, m, rfl, _⟩ := h
    rfl
  · obtain ⟨z, l, xs, m, rfl, x, hm, hl, off, l1, l2, q⟩ := h
    refine ⟨_, pss_one (ps_ret (pe_ix (ixL (K := K)) (pv 1) (pe_call G__law_next (hr.mono (by decide)) (by rfl) D__law_next.g D__law_next.F.kp D__law_next.b .nil pass0 (pa_cons (pv 0) (pa_cons (pe_callB (lenS (K := K)) (by rfl) T.len PySem.boot_len (pa_cons (pv 1) pa_nil)) pa_nil))) (fun _ _ => rfl))), ?_⟩
    refine ⟨.ref l, rfl, .ref z.d, rfl, .ref l, rfl, l, xs, rfl, .inl (SqL.of hl), z, _, m, rfl, x, hm, by omega, by omega, fun H' r r0 r1 go => ?_⟩
    obtain ⟨j, rfl⟩ := Int.eq_ofNat_of_zero_le r0
    have hj : j < xs.length := by omega
    exact ⟨l, xs, j, xs[j], rfl, rfl, SqL.of (go.lst off hl), at_nat (List.getElem?_eq_getElem hj), q H' _ (List.getElem_mem hj) go⟩
/-! ### _law_room -/
def sp_room (K : PySem.W.Frag) : Sp := fun vs H Q _ => ∃ (z : Dec) (far : Bool) (m : Nat), vs = [.ref z.d, .bl far] ∧ DeckAt H z m ∧ m + 10 ≤ 1000000 ∧
  ∀ (H' : Hp) (r : Int), Go z H H' (m + 4) → Q (.int r) H'
theorem ok_room {f f1 f2 : Addr} {fd fd1 fd2 : FuncData} (D : Df K mg "_law_room" s__law_room P__law_room f fd) (T : Tx mg) (D__law_next : Df K mg "_law_next" s__law_next P__law_next f1 fd1) (G__law_next : FnOk P w K mg base CX0 1 f1 fd1 P__law_next (sp_next K))
    (D__law_one : Df K mg "_law_one" s__law_one P__law_one f2 fd2) (G__law_one : FnOk P w K mg base CX0 2 f2 fd2 P__law_one (sp_one K)) :
    FnOk P w K mg base CX0 3 f fd P__law_room (sp_room K) := by
  refine D.F.ok sc__law_room (fun vs H Q E h => ?_) (fun cdv A outer s H vs Q E hr h => ?_)
  · obtain ⟨z, far, m, rfl, _⟩ := h
    rfl
  · obtain ⟨z, far, m, rfl, x, hm, q⟩ := h
    refine ⟨_, pss_cons (ps_set (i := 2) sc__law_room.nd rfl (.inl rfl) (pe_call G__law_one (hr.mono (by decide)) (by rfl) D__law_one.g D__law_one.F.kp D__law_one.b .nil pass0 (pa_cons (pv 0) (pa_cons (pe_lst (pa_cons pe_int (pa_cons pe_int (pa_cons pe_int (pa_cons pe_int (pa_cons pe_int (pa_cons pe_int pa_nil))))))) pa_nil))))
        (pss_cons (ps_set (i := 3) sc__law_room.nd rfl (.inl rfl) (pe_call G__law_one (hr.mono (by decide)) (by rfl) D__law_one.g D__law_one.F.kp D__law_one.b .nil pass0 (pa_cons (pv 0) (pa_cons (pe_lst (pa_cons pe_int (pa_cons pe_int (pa_cons (pe_op op_pow pe_int pe_int) (pa_cons (pe_op op_sub (pe_op op_pow pe_int pe_int) (pe_call G__law_next (hr.mono (by decide)) (by rfl) D__law_next.g D__law_next.F.kp D__law_next.b .nil pass0 (pa_cons (pv 0) (pa_cons pe_int pa_nil)))) (pa_cons (pe_call G__law_next (hr.mono (by decide)) (by rfl) D__law_next.g D__law_next.F.kp D__law_next.b .nil pass0 (pa_cons (pv 0) (pa_cons (pe_op op_pow pe_int pe_int) pa_nil))) pa_nil)))))) pa_nil))))
        (pss_one (ps_ret (pe_ix (ixL (K := K)) (pe_lst (pa_cons (pv 2) (pa_cons (pv 3) pa_nil))) (pe_callTy call_int1 (by rfl) T.int_ (by decide +kernel) (pa_cons (pv 1) pa_nil)) (fun _ _ => rfl))))), ?_⟩
    refine ⟨.ref z.d, rfl, by show 6 ≤ sizeLine; decide, fun p hp => ?_⟩
    have g1 := (Go.refl x).new hp (o := .lst [V.int 0, .int 1, .int 1, .int 2, .int 3, .int 5])
    refine ⟨z, p, _, m, rfl, g1.dk, by omega, upd_same, x.off hp, by simp, by simp, fun H1 v hv go1 => ?_⟩
    obtain ⟨small, _, rfl⟩ := List.mem_map.mp (show v ∈ [(0 : Int), 1, 1, 2, 3, 5].map V.int from hv)
    have g2 := g1.trans go1
    refine ⟨.ref z.d, rfl, 10, 12, rfl, rfl, ⟨by decide, by decide, by decide⟩, 10, 12, rfl, rfl, ⟨by decide, by decide, by decide⟩, .ref z.d, rfl, z, 3, m + 1, rfl, go1.dk, by omega, by decide, by decide, fun H2 r2 r20 r21 go2 => ?_⟩
    refine ⟨_, r2, rfl, rfl, .ref z.d, rfl, 10, 12, rfl, rfl, ⟨by decide, by decide, by decide⟩, z, _, m + 1 + 1, rfl, go2.dk, by omega, by decide, by decide, fun H3 r3 r30 r31 go3 => ?_⟩
    refine ⟨by show 5 ≤ sizeLine; decide, fun p2 hp2 => ?_⟩
    have g4 := (g2.trans (go2.trans go3)).new hp2 (o := .lst [V.int 1, .int 2, .int (10 ^ 12), .int (10 ^ 12 - r2), .int r3])
    refine ⟨z, p2, _, m + 1 + 1 + 1, rfl, g4.dk, by omega, upd_same, go3.off hp2, by simp, by simp, fun H5 v5 hv5 go5 => ?_⟩
    obtain ⟨great, _, rfl⟩ := List.mem_map.mp (show v5 ∈ [(1 : Int), 2, 10 ^ 12, 10 ^ 12 - r2, r3].map V.int from hv5)
    have g5 := g4.trans go5
    refine ⟨.int small, rfl, .int great, rfl, by show 2 ≤ sizeLine; decide, fun p3 hp3 => ?_⟩
    refine ⟨.bl far, rfl, .inr ⟨far, rfl, ?_⟩⟩
    have g6 := g5.new hp3 (o := .lst [V.int small, .int great])
    cases far with
    | false => exact ⟨p3, _, 0, .int small, rfl, rfl, SqL.of upd_same, at_nat (j := 0) rfl, q _ small g6⟩
    | true => exact ⟨p3, _, 1, .int great, rfl, rfl, SqL.of upd_same, at_nat (j := 1) rfl, q _ great g6⟩
/-! ### _law_order -/
def sp_order (K : PySem.W.Frag) : Sp := fun vs H Q _ => ∃ (z : Dec) (l : Addr) (xs : List V) (m : Nat), vs = [.ref z.d, .ref l] ∧ DeckAt H z m ∧ m + 100 ≤ 1000000 ∧ H l = some (.lst xs) ∧ Off z l ∧ xs.length ≤ 20 ∧
  ∀ (H' : Hp) (p : Addr) (ys : List V), Go z H H' (m + 20) → H' p = some (.tup ys) → Q (.ref p) H'
theorem ok_order {f f1 : Addr} {fd fd1 : FuncData} (D : Df K mg "_law_order" s__law_order P__law_order f fd) (T : Tx mg) (D__law_next : Df K mg "_law_next" s__law_next P__law_next f1 fd1) (G__law_next : FnOk P w K mg base CX0 1 f1 fd1 P__law_next (sp_next K)) :
    FnOk P w K mg base CX0 2 f fd P__law_order (sp_order K) := by
  refine D.F.ok sc__law_order (fun vs H Q E h => ?_) (fun cdv A outer s H vs Q E hr h => ?_)
  · obtain ⟨z, l, xs, m, rfl, _⟩ := h
    rfl
  · obtain ⟨z, l, xs, m, rfl, x, hm, hl, off, l20, q⟩ := h
    refine ⟨_, pss_cons (ps_set (i := 2) sc__law_order.nd rfl (.inl rfl) (pe_lst pa_nil))
        (pss_cons (ps_for PassesOwn.never rfl (iList_ (K := K) (pv 1)) (pg_name (i := 3) sc__law_order.nd rfl (.inl rfl))
        (pss_one (ps_expr (pe_bm PySem.F.plainAttrs_list PySem.F.slot_list_insert PySem.F.type_list_insert mt_insert (pv 2) (pa_cons (pe_call G__law_next (hr.mono (by decide)) (by rfl) D__law_next.g D__law_next.F.kp D__law_next.b .nil pass0 (pa_cons (pv 0) (pa_cons (pe_op op_add (pe_callB (lenS (K := K)) (by rfl) T.len PySem.boot_len (pa_cons (pv 2) pa_nil)) pe_int) pa_nil))) (pa_cons (pv 3) pa_nil))))))
        (pss_one (ps_ret (pe_callTy (tupOf (K := K)) (by rfl) T.tuple_ (by decide +kernel) (pa_cons (pv 2) pa_nil))))), ?_⟩
    refine ⟨Nat.zero_le _, fun F hF => ?_⟩
    have g0 := (Go.refl x).new hF (o := .lst [])
    refine ⟨.ref l, rfl, l, rfl, ⟨_, SqL.of (g0.lst off hl)⟩, for_list (K := K) (a := l) (xs := xs) (fun i σ H' => ∃ (ys : List V) (y3 : Option V), σ = [some (.ref z.d), some (.ref l), some (.ref F), y3] ∧ Go z H H' (m + i) ∧ H' F = some (.lst ys) ∧ ys.length = i) ⟨[], none, rfl, g0, upd_same, rfl⟩ (fun i σ H' _ h => by
      obtain ⟨_, _, _, g, _⟩ := h
      exact SqL.of (g.lst off hl)) (fun i v σ H1 hv hp => ?_) (fun σ H1 hp => ?_)⟩
    · obtain ⟨ys, y3, rfl, g, hys, hyl⟩ := hp
      have hi : i < xs.length := (List.getElem?_eq_some_iff.mp hv).1
      refine ⟨.ref F, rfl, .inl ⟨rfl, _, SqL.of hys⟩, .ref z.d, rfl, .ref F, rfl, F, ys, rfl, .inl (SqL.of hys), _, 1, rfl, rfl, z, _, m + i, rfl, g.dk, by omega, by omega, by omega, fun H2 r r0 r1 go => ?_⟩
      refine ⟨v, rfl, F, ys, r, v, rfl, rfl, go.lst (x.off hF) hys, small_lt (by omega), r0, by omega, ?_⟩
      refine ⟨_, _, rfl, (g.trans go).put hF, upd_same, ?_⟩
      rw [List.length_append, List.length_append, List.length_take, List.length_drop, List.length_singleton]
      omega
    · obtain ⟨ys, y3, rfl, g, hys, hyl⟩ := hp
      refine ⟨.ref F, rfl, F, ys, rfl, .inl ⟨SqL.of hys, fun t ht => ?_⟩⟩
      exact q _ t ys ((g.new ht).mono (by omega)) upd_same
/-! ### _law_road -/
def bOf (r : Int) : Option Nat := if 0 < r then some (r - 1).toNat else none
theorem oV_bOf (r : Int) : oV (bOf r) = if 0 < r then V.int (r - 1) else .non := by
  unfold bOf
  by_cases h : 0 < r
  · rw [if_pos h, if_pos h]
    show V.int (((r - 1).toNat : Nat) : Int) = V.int (r - 1)
    rw [Int.toNat_of_nonneg (by omega)]
  · rw [if_neg h, if_neg h]
    rfl
theorem bOf_lt {r : Int} {k : Nat} (h : r ≤ (k : Int)) : ∀ x, bOf r = some x → x < k := fun x e => by
  unfold bOf at e
  by_cases c : 0 < r
  · rw [if_pos c] at e
    have e := Option.some.inj e
    omega
  · rw [if_neg c] at e
    cases e
def sp_road (K : PySem.W.Frag) : Sp := fun vs H Q _ => ∃ (z : Dec) (k : Nat) (far : Bool) (m : Nat), vs = [.ref z.d, nV k, .bl far] ∧ DeckAt H z m ∧ m + 100 ≤ 1000000 ∧ 1 ≤ k ∧ k ≤ 8 ∧
  ∀ (H' : Hp) (p : Addr) (r : Road), Go z H H' (m + 6) → RoadAt H' p r → (∀ x, r.b = some x → x < k) → (∀ x, r.e = some x → x < k) → Q (.ref p) H'
theorem ok_road {f f1 f2 : Addr} {fd fd1 fd2 : FuncData} (D : Df K mg "_law_road" s__law_road P__law_road f fd) (T : Tx mg) (D__law_next : Df K mg "_law_next" s__law_next P__law_next f1 fd1) (G__law_next : FnOk P w K mg base CX0 1 f1 fd1 P__law_next (sp_next K))
    (D__law_room : Df K mg "_law_room" s__law_room P__law_room f2 fd2) (G__law_room : FnOk P w K mg base CX0 3 f2 fd2 P__law_room (sp_room K)) :
    FnOk P w K mg base CX0 4 f fd P__law_road (sp_road K) := by
  refine D.F.ok sc__law_road (fun vs H Q E h => ?_) (fun cdv A outer s H vs Q E hr h => ?_)
  · obtain ⟨z, k, far, m, rfl, _⟩ := h
    rfl
  · obtain ⟨z, k, far, m, rfl, x, hm, k1, k8, q⟩ := h
    refine ⟨_, pss_cons (ps_set (i := 3) sc__law_road.nd rfl (.inl rfl) (pe_call G__law_next (hr.mono (by decide)) (by rfl) D__law_next.g D__law_next.F.kp D__law_next.b .nil pass0 (pa_cons (pv 0) (pa_cons (pe_op op_add (pv 1) pe_int) pa_nil))))
        (pss_cons (ps_set (i := 4) sc__law_road.nd rfl (.inl rfl) (pe_op op_mod (pe_op op_add (pe_op op_add (pv 3) pe_int) (pe_call G__law_next (hr.mono (by decide)) (by rfl) D__law_next.g D__law_next.F.kp D__law_next.b .nil pass0 (pa_cons (pv 0) (pa_cons (pv 1) pa_nil)))) (pe_op op_add (pv 1) pe_int)))
        (pss_cons (ps_asg (pe_lc (own := [(("_law_number" : Str), 7)]) (g := gName 7) (tt := tYes) rfl sc__law_road.nd (iTup_ (K := K) (pe_tup (pa_cons (pv 3) (pa_cons (pv 4) pa_nil)))) (blkOk_by (own := [(("_law_number" : Str), 7)]) (N := N__law_road) (sc := defScope s__law_road) (by decide +kernel)) (fun _ _ _ _ _ => (pg_name (i := 7) sc__law_road.nd rfl (.inl rfl))) (fun _ _ _ _ _ => pts_nil) (fun _ _ _ _ _ => (pe_ix (ixL (K := K)) (pe_lst (pa_cons pe_non (pa_cons (pe_op op_sub (pv 7) pe_int) pa_nil))) (pe_callTy call_int1 (by rfl) T.int_ (by decide +kernel) (pa_cons (pe_cmpR op_gt (pv 7) pe_int (nomark _)) pa_nil)) (fun _ _ => rfl)))) (gunl (K := K) rfl (pgs_cons (pg_name (i := 5) sc__law_road.nd rfl (.inl rfl)) (pgs_cons (pg_name (i := 6) sc__law_road.nd rfl (.inl rfl)) pgs_nil))))
        (pss_one (ps_ret (pe_tup (pa_cons (pv 5) (pa_cons (pv 6) (pa_cons (pe_call G__law_room (hr.mono (by decide)) (by rfl) D__law_room.g D__law_room.F.kp D__law_room.b .nil pass0 (pa_cons (pv 0) (pa_cons (pv 2) pa_nil))) pa_nil)))))))), ?_⟩
    refine ⟨.ref z.d, rfl, nV k, rfl, (k : Int), 1, rfl, rfl, z, _, m, rfl, x, by omega, by omega, by omega, fun H1 r1 r10 r11 go1 => ?_⟩
    refine ⟨.int r1, rfl, r1, 1, rfl, rfl, .ref z.d, rfl, nV k, rfl, z, _, m + 1, rfl, go1.dk, by omega, by omega, by omega, fun H2 r2 r20 r21 go2 => ?_⟩
    refine ⟨_, r2, rfl, rfl, nV k, rfl, (k : Int), 1, rfl, rfl, _, _, rfl, rfl, by omega, ?_⟩
    have m0 : 0 ≤ (r1 + 1 + r2) % ((k : Int) + 1) := Int.emod_nonneg _ (by omega)
    have m1 : (r1 + 1 + r2) % ((k : Int) + 1) < (k : Int) + 1 := Int.emod_lt_of_pos _ (by omega)
    have g2 := go1.trans go2
    -- begin, end
    refine ⟨.int r1, rfl, .int ((r1 + 1 + r2) % ((k : Int) + 1)), rfl, by show 2 ≤ sizeLine; decide, fun t ht => ?_⟩
    have g3 := g2.new ht (o := .tup [V.int r1, .int ((r1 + 1 + r2) % ((k : Int) + 1))])
    have hT : upd H2 t (.tup [V.int r1, .int ((r1 + 1 + r2) % ((k : Int) + 1))]) t = some (.tup ([r1, (r1 + 1 + r2) % ((k : Int) + 1)].map V.int)) := upd_same
    generalize hrs : [r1, (r1 + 1 + r2) % ((k : Int) + 1)] = rr at hT
    generalize upd H2 t (.tup [V.int r1, .int ((r1 + 1 + r2) % ((k : Int) + 1))]) = H3 at *
    refine ⟨t, rfl, ⟨_, SqT.of hT⟩, fun L hL => ?_⟩
    refine lc_tup (K := K) (a := t) (xs := rr.map V.int) (fun i H' => Go z H3 H' (m + 1 + 1) ∧ H' L = some (.lst ((rr.take i).map fun r => oV (bOf r)))) ⟨(Go.refl g3.dk).new hL, upd_same⟩ (fun i H' _ h => SqT.of (h.1.tups _ _ hT)) (fun i v H4 hv hp => ?_) (fun H4 hp => ?_)
    · obtain ⟨g, hacc⟩ := hp
      rw [List.getElem?_map] at hv
      cases e : rr[i]? with
      | none =>
        rw [e] at hv
        cases hv
      | some r =>
        rw [e] at hv
        have hv : V.int r = v := Option.some.inj hv
        subst hv
        have hi : i < rr.length := (List.getElem?_eq_some_iff.mp e).1
        have h2 : rr.length = 2 := by rw [← hrs]; rfl
        refine ⟨rfl, .int r, rfl, r, 1, rfl, rfl, by show 2 ≤ sizeLine; decide, fun p hp => ?_⟩
        have g4 := g.new hp (o := .lst [V.non, .int (r - 1)])
        refine ⟨.int r, rfl, r, 0, rfl, rfl, .inr ⟨decide (0 < r), rfl, p, _, (if decide (0 < r) = true then 1 else 0), oV (bOf r), rfl, rfl, SqL.of upd_same, ?_, _, up_other hacc hp, ?_, g4.put hL, ?_⟩⟩
        · rw [oV_bOf]
          by_cases c : 0 < r
          · rw [decide_eq_true c, if_pos c]
            exact at_nat (j := 1) rfl
          · rw [decide_eq_false c, if_neg c]
            exact at_nat (j := 0) rfl
        · rw [List.length_map, List.length_take]
          exact small_lt (by omega)
        · rw [upd_same, List.take_add_one, e, List.map_append]
          rfl
    obtain ⟨g4, hL4⟩ := hp
    rw [List.length_map, List.take_length, ← hrs] at hL4
    refine ⟨L, _, rfl, SqL.of hL4, rfl, _, _, rfl, _, _, rfl, rfl, ?_⟩
    have g5 := g3.trans g4
    refine ⟨_, rfl, _, rfl, .ref z.d, rfl, .bl far, rfl, z, far, m + 1 + 1, rfl, g4.dk, by omega, fun H6 r6 go6 => ?_⟩
    refine ⟨by show 3 ≤ sizeLine; decide, fun p hp => ?_⟩
    have g6 := (g5.trans go6).new hp (o := .tup [oV (bOf r1), oV (bOf ((r1 + 1 + r2) % ((k : Int) + 1))), V.int r6])
    exact q _ p ⟨bOf r1, bOf ((r1 + 1 + r2) % ((k : Int) + 1)), r6⟩ g6 upd_same (bOf_lt (by omega)) (bOf_lt (by omega))
end
end U12

set_option Elab.async false
set_option linter.all false
set_option maxRecDepth 100000
set_option maxHeartbeats 4000000
namespace U12
open PySem PySem.Spec PyProof.Rows L2
/-- roads laid, by a list of their places -/
structure RoadsL (H : Hp) (ds : List Addr) (rs : List Road) (k : Nat) : Prop where
  len : ds.length = rs.length
  at_ : ∀ (i : Nat) (d : Addr) (r : Road), ds[i]? = some d → rs[i]? = some r → RoadAt H d r
  lt : ∀ r, r ∈ rs → (∀ h, r.b = some h → h < k) ∧ ∀ h, r.e = some h → h < k
theorem RoadsL.nil (H : Hp) (k : Nat) : RoadsL H [] [] k := ⟨rfl, fun i d r h => by simp at h, fun r h => nomatch h⟩
theorem RoadsL.mono {H H' : Hp} {ds : List Addr} {rs : List Road} {k : Nat} (a : RoadsL H ds rs k) (t : Tups H H') : RoadsL H' ds rs k := ⟨a.len, fun i d r h1 h2 => t _ _ (a.at_ i d r h1 h2), a.lt⟩
theorem RoadsL.app {H : Hp} {ds : List Addr} {rs : List Road} {k : Nat} {d : Addr} {r : Road} (a : RoadsL H ds rs k) (h : RoadAt H d r) (h1 : ∀ x, r.b = some x → x < k) (h2 : ∀ x, r.e = some x → x < k) : RoadsL H (ds ++ [d]) (rs ++ [r]) k := by
  refine ⟨by rw [List.length_append, List.length_append, a.len]; rfl, fun i d' r' e1 e2 => ?_, fun r' hr => ?_⟩
  · by_cases c : i < ds.length
    · rw [List.getElem?_append_left c] at e1
      rw [List.getElem?_append_left (by rw [← a.len]; exact c)] at e2
      exact a.at_ i d' r' e1 e2
    · rw [List.getElem?_append_right (by omega)] at e1
      rw [List.getElem?_append_right (by rw [← a.len]; omega), ← a.len] at e2
      generalize i - ds.length = j at e1 e2
      cases j with
      | zero =>
        have e1 := Option.some.inj e1
        have e2 := Option.some.inj e2
        subst e1
        subst e2
        exact h
      | succ j => simp at e1
  · rcases List.mem_append.mp hr with hr | hr
    · exact a.lt r' hr
    · rw [List.mem_singleton.mp hr]
      exact ⟨h1, h2⟩
section
variable {P : Program} {w : World} {K : PySem.W.Frag} {mg : Str → Option Value} {base : Heap}
/-! ### _law_web -/
def sp_web (K : PySem.W.Frag) : Sp := fun vs H Q _ => ∃ (z : Dec) (far : Bool) (m : Nat), vs = [.ref z.d, .int 8, .int 20, .bl far] ∧ DeckAt H z m ∧ m + 1000 ≤ 1000000 ∧
  ∀ (H' : Hp) (a : Addr) (rs : List Road) (k : Nat), Go z H H' (m + 500) → WebAt H' a rs k → Q (.ref a) H'
theorem ok_web {f f1 f2 f3 : Addr} {fd fd1 fd2 fd3 : FuncData} (D : Df K mg "_law_web" s__law_web P__law_web f fd) (T : Tx mg) (D__law_next : Df K mg "_law_next" s__law_next P__law_next f1 fd1) (G__law_next : FnOk P w K mg base CX0 1 f1 fd1 P__law_next (sp_next K))
    (D__law_road : Df K mg "_law_road" s__law_road P__law_road f2 fd2) (G__law_road : FnOk P w K mg base CX0 4 f2 fd2 P__law_road (sp_road K))
    (D__law_order : Df K mg "_law_order" s__law_order P__law_order f3 fd3) (G__law_order : FnOk P w K mg base CX0 2 f3 fd3 P__law_order (sp_order K)) :
    FnOk P w K mg base CX0 5 f fd P__law_web (sp_web K) := by
  refine D.F.ok sc__law_web (fun vs H Q E h => ?_) (fun cdv A outer s H vs Q E hr h => ?_)
  · obtain ⟨z, far, m, rfl, _⟩ := h
    rfl
  · obtain ⟨z, far, m, rfl, x, hm, q⟩ := h
    refine ⟨_, pss_cons (ps_set (i := 4) sc__law_web.nd rfl (.inr rfl) (pe_op op_add pe_int (pe_call G__law_next (hr.mono (by decide)) (by rfl) D__law_next.g D__law_next.F.kp D__law_next.b .nil pass0 (pa_cons (pv 0) (pa_cons (pv 1) pa_nil)))))
        (pss_cons (ps_set (i := 5) sc__law_web.nd rfl (.inr rfl) (pe_lc (own := [(("_law_k" : Str), 10)]) (g := gName 10) (tt := tYes) rfl sc__law_web.nd (pi_range1 rfl T.range (pa_cons (pe_op op_add pe_int (pe_call G__law_next (hr.mono (by decide)) (by rfl) D__law_next.g D__law_next.F.kp D__law_next.b .nil pass0 (pa_cons (pv 0) (pa_cons (pv 2) pa_nil)))) pa_nil)) (blkOk_by (own := [(("_law_k" : Str), 10)]) (N := N__law_web) (sc := defScope s__law_web) (by decide +kernel)) (fun _ _ _ _ _ => (pg_name (i := 10) sc__law_web.nd rfl (.inl rfl))) (fun _ _ _ _ _ => pts_nil) (fun _ _ _ _ _ => (pe_call G__law_road (hr.mono (by decide)) (by rfl) D__law_road.g D__law_road.F.kp D__law_road.b .nil pass0 (pa_cons (pv 0) (pa_cons (pv 4) (pa_cons (pv 3) pa_nil)))))))
        (pss_cons (ps_set (i := 6) sc__law_web.nd rfl (.inl rfl) (pe_lst pa_nil))
        (pss_cons (ps_for PassesOwn.never rfl (iTup_ (K := K) (pe_tup (pa_cons pe_int (pa_cons pe_int pa_nil)))) (pg_name (i := 7) sc__law_web.nd rfl (.inr rfl))
        (pss_cons (ps_set (i := 8) sc__law_web.nd rfl (.inl rfl) (pe_lst pa_nil))
        (pss_cons (ps_for PassesOwn.never rfl (pi_range1 rfl T.range (pa_cons (pv 4) pa_nil)) (pg_name (i := 9) sc__law_web.nd rfl (.inr rfl))
        (pss_one (ps_expr (pe_bm PySem.F.plainAttrs_list PySem.F.slot_list_append PySem.F.type_list_append mt_append (pv 8) (pa_cons (pe_call G__law_order (hr.mono (by decide)) (by rfl) D__law_order.g D__law_order.F.kp D__law_order.b .nil pass0 (pa_cons (pv 0) (pa_cons (pe_lc (own := [(("_law_k" : Str), 10)]) (g := gName 10) rfl sc__law_web.nd (pi_range1 rfl T.range (pa_cons (pe_callB (lenS (K := K)) (by rfl) T.len PySem.boot_len (pa_cons (pv 5) pa_nil)) pa_nil)) (blkOk_by (own := [(("_law_k" : Str), 10)]) (N := N__law_web) (sc := defScope s__law_web) (by decide +kernel)) (fun _ _ _ _ _ => (pg_name (i := 10) sc__law_web.nd rfl (.inl rfl))) (fun _ _ _ _ _ => (pts_one (pt_cmpR op_eq (pe_ix (ixT (K := K)) (pe_ix (ixL (K := K)) (pv 5) (pv 10) (fun _ _ => rfl)) (pv 7) (fun _ _ => rfl)) (pv 9) (nomark _)))) (fun _ _ _ _ _ => (pv 10))) pa_nil))) pa_nil)))))
        (pss_one (ps_expr (pe_bm PySem.F.plainAttrs_list PySem.F.slot_list_append PySem.F.type_list_append mt_append (pv 6) (pa_cons (pe_callTy (tupOf (K := K)) (by rfl) T.tuple_ (by decide +kernel) (pa_cons (pv 8) pa_nil)) pa_nil)))))))
        (pss_one (ps_ret (pe_tup (pa_cons (pe_callTy (tupOf (K := K)) (by rfl) T.tuple_ (by decide +kernel) (pa_cons (pv 5) pa_nil)) (pa_cons (pe_ix (ixL (K := K)) (pv 6) pe_int (fun _ _ => rfl)) (pa_cons (pe_ix (ixL (K := K)) (pv 6) pe_int (fun _ _ => rfl)) pa_nil))))))))), ?_⟩
    -- count
    refine ⟨.ref z.d, rfl, .int 8, rfl, z, 8, m, rfl, x, by omega, by decide, by decide, fun H1 c c0 c1 go1 => ?_⟩
    obtain ⟨cn, rfl⟩ := Int.eq_ofNat_of_zero_le c0
    refine ⟨1, _, rfl, rfl, ?_⟩
    have ecn : (1 : Int) + (cn : Int) = ((cn + 1 : Nat) : Int) := by omega
    dsimp only
    rw [ecn]
    -- found
    refine ⟨.ref z.d, rfl, .int 20, rfl, z, 20, m + 1, rfl, go1.dk, by omega, by decide, by decide, fun H2 n n0 n1 go2 => ?_⟩
    refine ⟨1, n, rfl, rfl, 1 + n, rfl, by omega, by omega, fun F hF => ?_⟩
    have g2 := go1.trans go2
    refine lc_range (fun i H' => Go z H2 H' (m + 1 + 1 + 6 * i) ∧ ∃ (ds : List Addr) (rs : List Road), H' F = some (.lst (ds.map V.ref)) ∧ ds.length = i ∧ RoadsL H' ds rs (cn + 1)) ⟨(Go.refl go2.dk).new hF, [], [], upd_same, rfl, RoadsL.nil _ _⟩ (fun i H3 hi hp => ?_) (fun H3 hp => ?_)
    · obtain ⟨g, ds, rs, hacc, hdl, hrl⟩ := hp
      refine ⟨rfl, .ref z.d, rfl, nV (cn + 1), rfl, .bl far, rfl, z, cn + 1, far, _, rfl, g.dk, by omega, by omega, by omega, fun H4 p r go4 hr4 hb he => ?_⟩
      refine ⟨_, go4.lst (go2.off hF) hacc, by rw [List.length_map]; exact small_lt (by omega), ((g.trans go4).put hF).mono (by omega), ds ++ [p], rs ++ [r], ?_, ?_, ?_⟩
      · rw [upd_same, List.map_append]
        rfl
      · rw [List.length_append, hdl]
        rfl
      · exact ((hrl.mono go4.tups).app hr4 hb he).mono ((Tups.refl H4).lst (go4.lst (go2.off hF) hacc))
    obtain ⟨go3, ds, rs, hF3, hdl, hrl⟩ := hp
    have offF : Off z F := go2.off hF
    have g3 := g2.trans go3
    have hds20 : ds.length ≤ 20 := by omega
    have hds1 : 1 ≤ ds.length := by omega
    have g3 := g3.mono (m' := m + 122) (by omega)
    have dk3 := g3.dk
    clear go1 go2 go3 g2 hF
    -- orders
    refine ⟨Nat.zero_le _, fun O hO => ?_⟩
    have g4 := (Go.refl dk3).new hO (o := .lst [])
    have hO4 : upd H3 O (.lst []) O = some (.lst []) := upd_same
    have offO : Off z O := dk3.off hO
    generalize upd H3 O (.lst []) = H4 at *
    -- the sides
    refine ⟨by show 2 ≤ sizeLine; decide, fun t ht => ?_⟩
    have g5 := g4.new ht (o := .tup [V.int 0, .int 1])
    have hO5 := up_other (o := .tup [V.int 0, .int 1]) hO4 ht
    have hT5 : upd H4 t (.tup [V.int 0, .int 1]) t = some (.tup ([0, 1].map nV)) := upd_same
    generalize upd H4 t (.tup [V.int 0, .int 1]) = H5 at *
    have b0 : ∀ (j : Nat) (o : Addr), ([] : List Addr)[j]? = some o → ∃ gs, H5 o = some (.tup gs) ∧ gs.length = cn + 1 := fun j o e => by simp at e
    refine ⟨t, rfl, ⟨_, SqT.of hT5⟩, for_tup (K := K) (a := t) (xs := [0, 1].map nV) (fun i σ H' => ∃ (y7 y8 y9 : Option V) (os : List Addr), σ = [some (.ref z.d), some (.int 8), some (.int 20), some (.bl far), some (nV (cn + 1)), some (.ref F), some (.ref O), y7, y8, y9, none] ∧
      Go z H3 H' (m + 122 + 160 * i) ∧ Tups H5 H' ∧ H' O = some (.lst (os.map V.ref)) ∧ os.length = i ∧ ∀ j o, os[j]? = some o → ∃ gs, H' o = some (.tup gs) ∧ gs.length = cn + 1) ⟨none, none, none, [], rfl, g5, Tups.refl _, hO5, rfl, b0⟩ (fun i σ H' _ h => by
      obtain ⟨_, _, _, _, _, g, tt, _⟩ := h
      exact SqT.of (tt _ _ hT5)) (fun i v σ H6 hv hp => ?_) (fun σ H6 hp => ?_)⟩
    · obtain ⟨y7, y8, y9, os, rfl, g6, t6, hO6, hol, hoa⟩ := hp
      obtain ⟨side, rfl, hside⟩ : ∃ side : Nat, v = nV side ∧ side ≤ 1 := by
        cases i with
        | zero => exact ⟨0, (Option.some.inj hv).symm, by omega⟩
        | succ i =>
          cases i with
          | zero => exact ⟨1, (Option.some.inj hv).symm, by omega⟩
          | succ i => simp at hv
      have hi2 : i < 2 := (List.getElem?_eq_some_iff.mp hv).1
      -- rows = []
      refine ⟨Nat.zero_le _, fun R hR => ?_⟩
      have g7 := (Go.refl g6.dk).new hR (o := .lst [])
      have hR7 : upd H6 R (.lst []) R = some (.lst []) := upd_same
      have offR : Off z R := g6.dk.off hR
      generalize upd H6 R (.lst []) = H7 at *
      refine ⟨nV (cn + 1), rfl, _, rfl, by omega, by omega, for_range (fun j σ H' => ∃ (y9 : Option V) (ys : List V), σ = [some (.ref z.d), some (.int 8), some (.int 20), some (.bl far), some (nV (cn + 1)), some (.ref F), some (.ref O), some (nV side), some (.ref R), y9, none] ∧
        Go z H6 H' (m + 122 + 160 * i + 20 * j) ∧ H' R = some (.lst ys) ∧ ys.length = j) ⟨y9, [], rfl, g7, hR7, rfl⟩ (fun j σ H8 hj hp => ?_) (fun σ H8 hp => ?_)⟩
      · obtain ⟨z9, ys, rfl, g8, hR8, hyl⟩ := hp
        have hj8 : j < cn + 1 := by simpa using hj
        rw [Int.zero_add]
        -- the comprehension
        have hF8 : H8 F = some (.lst (ds.map V.ref)) := (g6.trans g8).lst offF hF3
        refine ⟨.ref R, rfl, .inl ⟨rfl, _, SqL.of hR8⟩, .ref z.d, rfl, .ref F, rfl, F, _, rfl, .inl (SqL.of hF8), _, rfl, by omega, by rw [List.length_map]; omega, fun C hC => ?_⟩
        refine lc_range (fun n H' => Same H8 H' ∧ ∃ ns, H' C = some (.lst ns) ∧ ns.length ≤ n) ⟨(Same.refl H8).new hC, [], upd_same, Nat.le_refl 0⟩ (fun n H9 hn hp => ?_) (fun H9 hp => ?_)
        · obtain ⟨s9, ns, hns, hnl⟩ := hp
          rw [Int.zero_add]
          have hn' : n < ds.length := by simpa using hn
          have e1 : ds[n]? = some ds[n] := List.getElem?_eq_getElem hn'
          obtain ⟨rn, e2⟩ : ∃ rn, rs[n]? = some rn := ⟨_, List.getElem?_eq_getElem (by rw [← hrl.len]; exact hn')⟩
          have hr9 := (hrl.mono ((g6.trans g8).tups.trans s9.tups)).at_ n _ _ e1 e2
          obtain ⟨v, hv, hsc⟩ : ∃ v, atI [oV rn.b, oV rn.e, V.int rn.r] ((side : Nat) : Int) = some v ∧ scal v (nV j) = true := by
            cases side with
            | zero => exact ⟨_, at_nat rfl, scal_oV rn.b (some j)⟩
            | succ s =>
              cases s with
              | zero => exact ⟨_, at_nat rfl, scal_oV rn.e (some j)⟩
              | succ s => omega
          refine ⟨rfl, .ref F, rfl, nV n, rfl, F, _, (n : Int), .ref ds[n], rfl, rfl, SqL.of (s9 _ _ hF8), at_nat (by rw [List.getElem?_map, e1]; rfl), nV side, rfl, _, _, (side : Int), v, rfl, rfl, SqT.of hr9, hv, nV j, rfl, hsc, _, rfl, ite2 (fun _ => ?_) fun _ => ?_⟩
          · refine ⟨nV n, rfl, ns, hns, small_lt (by omega), s9.put hC, _, upd_same, ?_⟩
            rw [List.length_append, List.length_singleton]
            omega
          · exact ⟨s9, ns, hns, by omega⟩
        obtain ⟨s9, ns, hns, hnl⟩ := hp
        have hnl : ns.length ≤ ds.length := by simpa using hnl
        have dk9 := g8.dk.same s9
        refine ⟨z, C, ns, _, rfl, dk9, by omega, hns, g8.dk.off hC, by omega, fun H10 p ys' go10 hp10 => ?_⟩
        have g10 := (g8.trans (Go.of g8.dk s9)).trans go10
        refine ⟨R, ys, _, rfl, rfl, go10.lst offR (s9 _ _ hR8), small_lt (by omega), _, _, rfl, (g10.put hR).mono (by omega), upd_same, ?_⟩
        rw [List.length_append, hyl]
        rfl
      · obtain ⟨z9, ys, rfl, g8, hR8, hyl⟩ := hp
        have hyl : ys.length = cn + 1 := by simpa using hyl
        have hO8 := g8.lst offO hO6
        refine ⟨.ref O, rfl, .inl ⟨rfl, _, SqL.of hO8⟩, .ref R, rfl, R, ys, rfl, .inl ⟨SqL.of hR8, fun p hp => ?_⟩⟩
        have g9 := g8.new hp (o := .tup ys)
        have hO9 := up_other (o := .tup ys) hO8 hp
        have hp9 : upd H8 p (.tup ys) p = some (.tup ys) := upd_same
        generalize upd H8 p (.tup ys) = H9 at *
        have tO : Tups H9 (upd H9 O (.lst (os.map V.ref ++ [V.ref p]))) := (Tups.refl H9).lst hO9
        have t8 : Tups H6 (upd H9 O (.lst (os.map V.ref ++ [V.ref p]))) := g9.tups.trans tO
        refine ⟨O, _, _, rfl, rfl, hO9, by rw [List.length_map]; exact small_lt (by omega), _, _, _, os ++ [p], rfl, ((g6.trans g9).put hO).mono (by simp; omega), t6.trans t8, ?_, ?_, fun j o e => ?_⟩
        · rw [upd_same, List.map_append]
          rfl
        · rw [List.length_append, hol]
          rfl
        · by_cases c : j < os.length
          · rw [List.getElem?_append_left c] at e
            obtain ⟨gs, h1, h2⟩ := hoa j o e
            exact ⟨gs, t8 _ _ h1, h2⟩
          · rw [List.getElem?_append_right (by omega)] at e
            generalize j - os.length = jj at e
            cases jj with
            | zero =>
              have e := Option.some.inj e
              subst e
              exact ⟨ys, tO _ _ hp9, hyl⟩
            | succ jj => simp at e
    · obtain ⟨y7, y8, y9, os, rfl, g6, t6, hO6, hol, hoa⟩ := hp
      have hol : os.length = 2 := hol
      obtain ⟨o1, o2, rfl⟩ : ∃ o1 o2, os = [o1, o2] := by
        match os, hol with
        | [o1, o2], _ => exact ⟨o1, o2, rfl⟩
      obtain ⟨gs1, h1, l1⟩ := hoa 0 o1 rfl
      obtain ⟨gs2, h2, l2⟩ := hoa 1 o2 rfl
      have hF6 := g6.lst offF hF3
      refine ⟨.ref F, rfl, F, _, rfl, .inl ⟨SqL.of hF6, fun t1 ht1 => ?_⟩⟩
      have g7 := g6.new ht1 (o := .tup (ds.map V.ref))
      have hO7 := up_other (o := .tup (ds.map V.ref)) hO6 ht1
      have h17 := up_other (o := .tup (ds.map V.ref)) h1 ht1
      have hT7 : upd H6 t1 (.tup (ds.map V.ref)) t1 = some (.tup (ds.map V.ref)) := upd_same
      have hrl7 := hrl.mono g7.tups
      generalize upd H6 t1 (.tup (ds.map V.ref)) = H7 at *
      refine ⟨.ref O, rfl, O, _, 0, .ref o1, rfl, rfl, SqL.of hO7, at_nat (j := 0) rfl, .ref O, rfl, O, _, 1, .ref o2, rfl, rfl, SqL.of hO7, at_nat (j := 1) rfl, by show 3 ≤ sizeLine; decide, fun wb hwb => ?_⟩
      have tt : Tups H7 (upd H7 wb (.tup [V.ref t1, .ref o1, .ref o2])) := (Tups.refl H7).new hwb
      refine q _ wb rs (cn + 1) (((g3.trans g7).new hwb).mono (by simp)) ⟨⟨t1, o1, o2, gs1, upd_same, ⟨ds, tt _ _ hT7, hrl.len, fun i d r e1 e2 => tt _ _ (hrl7.at_ i d r e1 e2)⟩, tt _ _ h17, l1⟩, ?_, ?_, by omega, hrl.lt⟩
      · rw [← hrl.len]
        exact hds20
      · rw [← hrl.len]
        exact hds1
end
end U12

set_option Elab.async false
set_option linter.all false
set_option maxRecDepth 100000
set_option maxHeartbeats 4000000
namespace U12
open PySem PySem.Spec PyProof.Rows L2
/-- what holds behind an if, said once -/
theorem set_mid {i : Nat} {v : V} {c : TT} {t u r : TS} {D : Ends} {R : VK} {B C : L2.St → Hp → Prop} {σ : L2.St} {H : Hp} (Mid : L2.St → Hp → Prop) (hm : ∀ σ' H', Mid σ' H' → r D σ' H') (h : ∀ N : L2.St → Hp → Prop, (∀ σ' H', Mid σ' H' → N σ' H') → tIfS c t u { D with nx := N } (σ.set i (some v)) H) :
    gName i v σ H (Ends.mk (tSeq (tIfS c t u) r D) R B C).nx := h (r D) hm
theorem dp_n {K : PySem.W.Frag} {H : Hp} : ∀ ns : List Nat, DpAll K H (ns.map nV) (ns.map fun k : Nat => PyData.int (k : Int))
  | [] => .nil
  | i :: r => .cons (.int _) (dp_n r)
theorem nats_ints (ns : List Nat) : (ns.map fun k : Nat => PyData.int (k : Int)) = (ns.map fun k => ((k : Nat) : Int)).map PyData.int := by
  rw [List.map_map]
  rfl
theorem shaped_nL (ns : List Nat) : SeqAt.shaped (.list (ns.map fun k : Nat => PyData.int (k : Int))) = true := by
  rw [nats_ints]
  exact shaped_iL _
theorem eqv_nil (ns : List Nat) : PyData.eqv (.list (ns.map fun k : Nat => PyData.int (k : Int))) (.list []) = decide (ns = []) := by
  rw [nats_ints]
  refine (eqv_ints _ []).trans (decide_eq_decide.mpr ?_)
  rw [List.map_eq_nil_iff]
/-- a walk round so far -/
structure Rnd (rs : List Road) (first : Nat) (row : List Nat) (house : Option Nat) : Prop where
  hd : row.head? = some first
  ch : Chain rs (Bg rs first) row house
  nd : (row.map (Bg rs)).Nodup
  lt : ∀ j, j ∈ row → j < rs.length
theorem Rnd.ne {rs : List Road} {first : Nat} {row : List Nat} {house : Option Nat} (r : Rnd rs first row house) : row ≠ [] := fun e => by
  have h := r.hd
  rw [e] at h
  cases h
theorem Rnd.start {rs : List Road} {first : Nat} (h : first < rs.length) : Rnd rs first [first] (En rs first) where
  hd := rfl
  ch := ⟨rfl, rfl⟩
  nd := by simp
  lt := fun j hj => by
    rw [List.mem_singleton.mp hj]
    exact h
theorem Rnd.step {rs : List Road} {first h j : Nat} {row : List Nat} (l : Rnd rs first row (some h)) (hn : some h ∉ row.map (Bg rs)) (hj : j < rs.length) (hb : Bg rs j = some h) : Rnd rs first (row ++ [j]) (En rs j) where
  hd := by
    have e := l.hd
    cases row with
    | nil => cases e
    | cons k r => exact e
  ch := chain_snoc l.ch hb
  nd := by
    rw [List.map_append, List.nodup_append]
    refine ⟨l.nd, by simp, fun x hx y hy e => ?_⟩
    have e2 : y = some h := by
      rw [← hb]
      simpa using hy
    rw [e, e2] at hx
    exact hn hx
  lt := fun i hi => by
    rcases List.mem_append.mp hi with hi | hi
    · exact l.lt i hi
    · rw [List.mem_singleton.mp hi]
      exact hj
theorem Rnd.len {rs : List Road} {first k : Nat} {row : List Nat} {house : Option Nat} (l : Rnd rs first row house) (lt : ∀ r, r ∈ rs → ∀ h, r.b = some h → h < k) : row.length ≤ k + 1 := by
  have q := nodup_opt (n := k) l.nd fun x hx => by
    obtain ⟨j, hj, e⟩ := List.mem_map.mp hx
    have hr := List.getElem?_eq_getElem (l.lt j hj)
    rw [Bg_at hr] at e
    exact lt _ (List.getElem_mem _) x e
  rwa [List.length_map] at q
theorem Rnd.cut {rs : List Road} {first i : Nat} {row : List Nat} {house : Option Nat} (l : Rnd rs first row house) (hi : (row.map (Bg rs))[i]? = some house) : Chain rs house (row.drop i) house := by
  have hil : i < row.length := by
    have z := (List.getElem?_eq_some_iff.mp hi).1
    rwa [List.length_map] at z
  have c := l.ch
  rw [← List.take_append_drop i row] at c
  obtain ⟨y, _, c2⟩ := chain_cut c
  have e : row.drop i = row[i] :: row.drop (i + 1) := List.drop_eq_getElem_cons hil
  have ey : y = house := by
    rw [e] at c2
    rw [List.getElem?_map, List.getElem?_eq_getElem hil] at hi
    exact c2.1.symm.trans (Option.some.inj hi)
  rwa [ey] at c2
section
variable {P : Program} {w : World} {K : PySem.W.Frag} {mg : Str → Option Value} {base : Heap}
/-! ### _law_round -/
def sp_round (K : PySem.W.Frag) : Sp := fun vs H Q _ => ∃ (z : Dec) (a b : Addr) (rs : List Road) (k : Nat) (bs : List Int) (m : Nat), vs = [.ref z.d, .ref a, .ref b] ∧ DeckAt H z m ∧ m + 100 ≤ 1000000 ∧ WebAt H a rs k ∧ H b = some (.lst (bs.map V.int)) ∧ bs.length = rs.length ∧
  ∀ (H' : Hp) (p : Addr) (row : List Nat) (x : Option Nat), Go z H H' (m + 20) → H p = none → H' p = some (.lst (row.map nV)) → Chain rs x row x → (∀ j, j ∈ row → j < rs.length) → row.length ≤ 20 → Q (.ref p) H'
theorem ok_round {f f1 f2 : Addr} {fd fd1 fd2 : FuncData} (D : Df K mg "_law_round" s__law_round P__law_round f fd) (T : Tx mg) (D__law_next : Df K mg "_law_next" s__law_next P__law_next f1 fd1) (G__law_next : FnOk P w K mg base CX0 1 f1 fd1 P__law_next (sp_next K))
    (D__law_one : Df K mg "_law_one" s__law_one P__law_one f2 fd2) (G__law_one : FnOk P w K mg base CX0 2 f2 fd2 P__law_one (sp_one K)) :
    FnOk P w K mg base CX0 3 f fd P__law_round (sp_round K) := by
  refine D.F.ok sc__law_round (fun vs H Q E h => ?_) (fun cdv A outer s H vs Q E hr h => ?_)
  · obtain ⟨z, a, b, rs, k, bs, m, rfl, _⟩ := h
    rfl
  · obtain ⟨z, a, b, rs, k, bs, m, rfl, x0, hm, W, hb, hbl, q⟩ := h
    obtain ⟨R, G, Tk, gs, hw, hR, hG, hk⟩ := W.at_
    obtain ⟨xs, hxs, hxl, hxa⟩ := hR.seq (K := K)
    have h20 := W.few
    have h8 := W.houses
    have lt1 : ∀ r, r ∈ rs → ∀ h, r.b = some h → h < k := fun r hr => (W.lt r hr).1
    refine ⟨_, pss_cons (ps_setLc (i := 3) (own := [(("_law_k" : Str), 10)]) (g := gName 10) rfl sc__law_round.nd rfl rfl (sw_true rfl rfl rfl (by decide +kernel)) (pi_range1 rfl T.range (pa_cons (pe_callB (lenS (K := K)) (by rfl) T.len PySem.boot_len (pa_cons (pe_ix (ixT (K := K)) (pv 1) pe_int (fun _ _ => rfl)) pa_nil)) pa_nil)) (blkOk_by (own := [(("_law_k" : Str), 10)]) (N := N__law_round) (sc := defScope s__law_round) (by decide +kernel)) (fun _ _ _ _ _ => (pg_name (i := 10) sc__law_round.nd rfl (.inl rfl))) (fun _ _ _ _ _ => (pts_one (pt_cmpR op_lt (pe_ix (ixL (K := K)) (pv 2) (pv 10) (fun _ _ => rfl)) (pe_ix (ixT (K := K)) (pe_ix (ixT (K := K)) (pe_ix (ixT (K := K)) (pv 1) pe_int (fun _ _ => rfl)) (pv 10) (fun _ _ => rfl)) pe_int (fun _ _ => rfl)) (nomark _)))) (fun _ _ _ _ _ => (pv 10)))
        (pss_cons (ps_setLc (i := 4) (own := [(("_law_k" : Str), 10)]) (g := gName 10) rfl sc__law_round.nd rfl rfl (sw_true rfl rfl rfl (by decide +kernel)) (iList_ (K := K) (pv 3)) (blkOk_by (own := [(("_law_k" : Str), 10)]) (N := N__law_round) (sc := defScope s__law_round) (by decide +kernel)) (fun _ _ _ _ _ => (pg_name (i := 10) sc__law_round.nd rfl (.inl rfl))) (fun _ _ _ _ _ => (pts_one (pt_cmpR op_isN (pe_ix (ixT (K := K)) (pe_ix (ixT (K := K)) (pe_ix (ixT (K := K)) (pv 1) pe_int (fun _ _ => rfl)) (pv 10) (fun _ _ => rfl)) pe_int (fun _ _ => rfl)) pe_non (nomark _)))) (fun _ _ _ _ _ => (pv 10)))
        (pss_cons (ps_if (PW.pt (pw_or (pt_cmpR (eqD (K := K) hr.units) (pv 4) (pe_lst pa_nil) (nomark _)) (pw_or1 (pt_cmpR op_eq (pe_call G__law_next (hr.mono (by decide)) (by rfl) D__law_next.g D__law_next.F.kp D__law_next.b .nil pass0 (pa_cons (pv 0) (pa_cons pe_int pa_nil))) pe_int (nomark _)))))
        (pss_one (ps_set (i := 4) sc__law_round.nd rfl (.inl rfl) (pv 3)))
        pss_nil)
        (pss_cons (ps_if (pt_cmpR (eqD (K := K) hr.units) (pv 4) (pe_lst pa_nil) (nomark _))
        (pss_one (ps_ret (pe_lst pa_nil)))
        pss_nil)
        (pss_cons (ps_set (i := 5) sc__law_round.nd rfl (.inl rfl) (pe_lst (pa_cons (pe_call G__law_one (hr.mono (by decide)) (by rfl) D__law_one.g D__law_one.F.kp D__law_one.b .nil pass0 (pa_cons (pv 0) (pa_cons (pv 4) pa_nil))) pa_nil)))
        (pss_cons (ps_set (i := 6) sc__law_round.nd rfl (.inl rfl) (pe_lst (pa_cons (pe_ix (ixT (K := K)) (pe_ix (ixT (K := K)) (pe_ix (ixT (K := K)) (pv 1) pe_int (fun _ _ => rfl)) (pe_ix (ixL (K := K)) (pv 5) pe_int (fun _ _ => rfl)) (fun _ _ => rfl)) pe_int (fun _ _ => rfl)) pa_nil)))
        (pss_cons (ps_while PassesOwn.never (pt_cmpR (notInS (K := K)) (pe_ix (ixT (K := K)) (pe_ix (ixT (K := K)) (pe_ix (ixT (K := K)) (pv 1) pe_int (fun _ _ => rfl)) (pe_ix (ixL (K := K)) (pv 5) (pe_un un_neg pe_int) (fun _ _ => rfl)) (fun _ _ => rfl)) pe_int (fun _ _ => rfl)) (pe_op op_cat (pv 6) (pe_lst (pa_cons pe_non pa_nil))) (by rfl))
        (pss_cons (ps_set (i := 7) sc__law_round.nd rfl (.inr rfl) (pe_ix (ixT (K := K)) (pe_ix (ixT (K := K)) (pe_ix (ixT (K := K)) (pv 1) pe_int (fun _ _ => rfl)) (pe_ix (ixL (K := K)) (pv 5) (pe_un un_neg pe_int) (fun _ _ => rfl)) (fun _ _ => rfl)) pe_int (fun _ _ => rfl)))
        (pss_cons (ps_expr (pe_bm PySem.F.plainAttrs_list PySem.F.slot_list_append PySem.F.type_list_append mt_append (pv 6) (pa_cons (pv 7) pa_nil)))
        (pss_cons (ps_setLc (i := 8) (own := [(("_law_k" : Str), 10)]) (g := gName 10) rfl sc__law_round.nd rfl rfl (sw_true rfl rfl rfl (by decide +kernel)) (iList_ (K := K) (pv 3)) (blkOk_by (own := [(("_law_k" : Str), 10)]) (N := N__law_round) (sc := defScope s__law_round) (by decide +kernel)) (fun _ _ _ _ _ => (pg_name (i := 10) sc__law_round.nd rfl (.inl rfl))) (fun _ _ _ _ _ => (pts_one (pt_cmpR op_eq (pe_ix (ixT (K := K)) (pe_ix (ixT (K := K)) (pe_ix (ixT (K := K)) (pv 1) pe_int (fun _ _ => rfl)) (pv 10) (fun _ _ => rfl)) pe_int (fun _ _ => rfl)) (pv 7) (nomark _)))) (fun _ _ _ _ _ => (pv 10)))
        (pss_cons (ps_if (pt_cmpR (eqD (K := K) hr.units) (pv 8) (pe_lst pa_nil) (nomark _))
        (pss_one (ps_ret (pe_lst pa_nil)))
        pss_nil)
        (pss_one (ps_expr (pe_bm PySem.F.plainAttrs_list PySem.F.slot_list_append PySem.F.type_list_append mt_append (pv 5) (pa_cons (pe_call G__law_one (hr.mono (by decide)) (by rfl) D__law_one.g D__law_one.F.kp D__law_one.b .nil pass0 (pa_cons (pv 0) (pa_cons (pv 8) pa_nil))) pa_nil)))))))))
        (pss_cons (ps_set (i := 9) sc__law_round.nd rfl (.inl rfl) (pe_ix (ixT (K := K)) (pe_ix (ixT (K := K)) (pe_ix (ixT (K := K)) (pv 1) pe_int (fun _ _ => rfl)) (pe_ix (ixL (K := K)) (pv 5) (pe_un un_neg pe_int) (fun _ _ => rfl)) (fun _ _ => rfl)) pe_int (fun _ _ => rfl)))
        (pss_cons (ps_if (PW.pt (pw_and (pt_cmpR op_isN (pv 9) pe_non (nomark _)) (pw_and1 (pt_cmpR op_notN (pe_ix (ixT (K := K)) (pe_ix (ixT (K := K)) (pe_ix (ixT (K := K)) (pv 1) pe_int (fun _ _ => rfl)) (pe_ix (ixL (K := K)) (pv 5) pe_int (fun _ _ => rfl)) (fun _ _ => rfl)) pe_int (fun _ _ => rfl)) pe_non (nomark _)))))
        (pss_one (ps_ret (pe_lst pa_nil)))
        pss_nil)
        (pss_one (ps_ret (pe_slice (slL (K := K)) (pv 5) (po_some (pe_ix (ixL (K := K)) (pe_lst (pa_cons (pe_bm PySem.F.plainAttrs_list PySem.F.slot_list_index PySem.F.type_list_index (mtIndex (K := K)) (pv 6) (pa_cons (pv 9) pa_nil)) (pa_cons pe_int pa_nil))) (pe_callTy call_int1 (by rfl) T.int_ (by decide +kernel) (pa_cons (pe_cmpR op_isN (pv 9) pe_non (nomark _)) pa_nil)) (fun _ _ => rfl))) po_none))))))))))), ?_⟩
    -- lit
    refine ⟨.ref a, rfl, a, _, 0, .ref R, rfl, rfl, SqT.of hw, at_nat (j := 0) rfl, R, xs, rfl, .inr hxs, _, rfl, by omega, by omega, fun Lt hLt => ?_⟩
    refine lc_range (fun i H' => Same H H' ∧ ∃ ns : List Nat, H' Lt = some (.lst (ns.map nV)) ∧ ns.length ≤ i ∧ ∀ j, j ∈ ns → j < rs.length) ⟨(Same.refl H).new hLt, [], upd_same, Nat.le_refl 0, (fun x hx => nomatch hx)⟩ (fun i H1 hi hp => ?_) (fun H1 hp => ?_)
    · obtain ⟨hs, ns, hacc, hnl, hns⟩ := hp
      have hi' : i < rs.length := by
        rw [Int.toNat_natCast] at hi
        omega
      rw [Int.zero_add]
      obtain ⟨d, r, ys, hr_, hys, hyd, hd, eb, ee⟩ := (hR.mono hs.tups).get (K := K) hi'
      refine ⟨rfl, .ref b, rfl, nV i, rfl, b, _, (i : Int), .int (bs.getD i 0), rfl, rfl, SqL.of (hs _ _ hb), at_nat (map_int_at (by omega)), .ref a, rfl, a, _, 0, .ref R, rfl, rfl, SqT.of (hs _ _ hw), at_nat (j := 0) rfl, nV i, rfl, R, ys, _, .ref d, rfl, rfl, hys, hyd, d, _, 2, .int r.r, rfl, rfl, SqT.of hd, at_nat (j := 2) rfl, bs.getD i 0, r.r, rfl, rfl, _, rfl, ite2 (fun _ => ?_) fun _ => ?_⟩
      · refine ⟨nV i, rfl, _, hacc, ?_, hs.put hLt, ns ++ [i], ?_, ?_, fun j hj => ?_⟩
        · rw [List.length_map]
          exact small_lt (by omega)
        · rw [upd_same, List.map_append]
          rfl
        · rw [List.length_append, List.length_singleton]
          omega
        · rcases List.mem_append.mp hj with hj | hj
          · exact hns j hj
          · rw [List.mem_singleton.mp hj]
            exact hi'
      · exact ⟨hs, ns, hacc, by omega, hns⟩
    obtain ⟨s1, lit, hLt1, hll, hlit⟩ := hp
    rw [Int.toNat_natCast, hxl] at hll
    have offLt : Off z Lt := x0.off hLt
    -- begins
    refine ⟨.ref Lt, rfl, Lt, rfl, ⟨_, SqL.of hLt1⟩, fun B hB => ?_⟩
    refine lc_list (K := K) (a := Lt) (xs := lit.map nV) (fun i H' => Same H1 H' ∧ ∃ ns : List Nat, H' B = some (.lst (ns.map nV)) ∧ ns.length ≤ i ∧ ∀ j, j ∈ ns → j < rs.length) ⟨(Same.refl H1).new hB, [], upd_same, Nat.le_refl 0, (fun x hx => nomatch hx)⟩ (fun i H' _ h => SqL.of (h.1 _ _ hLt1)) (fun i v H2 hv hp => ?_) (fun H2 hp => ?_)
    · obtain ⟨hs, ns, hacc, hnl, hns⟩ := hp
      obtain ⟨j, rfl, hj⟩ : ∃ j, v = nV j ∧ lit[i]? = some j := by
        rw [List.getElem?_map] at hv
        cases e : lit[i]? with
        | none =>
          rw [e] at hv
          cases hv
        | some j =>
          rw [e] at hv
          exact ⟨j, (Option.some.inj hv).symm, rfl⟩
      have hi : i < lit.length := (List.getElem?_eq_some_iff.mp hj).1
      have hjl : j < rs.length := hlit j (List.mem_of_getElem? hj)
      have sA := s1.trans hs
      obtain ⟨d, r, ys, hr_, hys, hyd, hd, eb, ee⟩ := (hR.mono sA.tups).get (K := K) hjl
      refine ⟨rfl, .ref a, rfl, a, _, 0, .ref R, rfl, rfl, SqT.of (sA _ _ hw), at_nat (j := 0) rfl, nV j, rfl, R, ys, _, .ref d, rfl, rfl, hys, hyd, d, _, 0, oV r.b, rfl, rfl, SqT.of hd, at_nat (j := 0) rfl, rfl, _, rfl, ite2 (fun _ => ?_) fun _ => ?_⟩
      · refine ⟨nV j, rfl, _, hacc, ?_, hs.put hB, ns ++ [j], ?_, ?_, fun j' hj' => ?_⟩
        · rw [List.length_map]
          exact small_lt (by omega)
        · rw [upd_same, List.map_append]
          rfl
        · rw [List.length_append, List.length_singleton]
          omega
        · rcases List.mem_append.mp hj' with hj' | hj'
          · exact hns j' hj'
          · rw [List.mem_singleton.mp hj']
            exact hjl
      · exact ⟨hs, ns, hacc, by omega, hns⟩
    obtain ⟨s12, beg, hB2, hbegl, hbeg⟩ := hp
    rw [List.length_map] at hbegl
    have s2 := s1.trans s12
    have hLt2 := s12 _ _ hLt1
    have x2 := x0.same s2
    have offB : Off z B := (x0.same s1).off hB
    -- begins, or all that are lit
    refine set_mid (fun σ' H' => ∃ (B' : Addr) (beg' : List Nat), σ' = [some (.ref z.d), some (.ref a), some (.ref b), some (.ref Lt), some (.ref B'), none, none, none, none, none, none] ∧ Go z H2 H' (m + 1) ∧ H' B' = some (.lst (beg'.map nV)) ∧ Off z B' ∧ beg'.length ≤ 20 ∧ ∀ j, j ∈ beg' → j < rs.length) ?_ ?_
    rotate_left
    · intro N hN
      refine ⟨.ref B, rfl, Nat.zero_le _, fun p hp => ?_⟩
      have g3 := (Go.refl x2).new hp (o := .lst [])
      refine ⟨_, _, .lst (SqL.of (up_other hB2 hp)) (dp_n beg), .lst (SqL.of upd_same) .nil, shaped_nL beg, rfl, _, rfl, ?_⟩
      rw [eqv_nil]
      by_cases e : beg = []
      · rw [decide_eq_true e]
        exact iteT (iteT ⟨.ref Lt, rfl, hN _ _ ⟨Lt, lit, rfl, g3.mono (by omega), up_other hLt2 hp, offLt, by omega, hlit⟩⟩)
      · rw [decide_eq_false e]
        refine iteF ⟨.ref z.d, rfl, z, 3, m, rfl, g3.dk, by omega, by decide, by decide, fun H3 r r0 r1 go => ⟨rfl, _, rfl, ite2 (fun _ => ?_) fun _ => ?_⟩⟩
        · exact ⟨.ref Lt, rfl, hN _ _ ⟨Lt, lit, rfl, g3.trans go, (g3.trans go).lst offLt hLt2, offLt, by omega, hlit⟩⟩
        · exact hN _ _ ⟨B, beg, rfl, g3.trans go, (g3.trans go).lst offB hB2, offB, by omega, hbeg⟩
    clear hbeg hbegl hB2 offB hB
    rintro σ H3 ⟨B, beg, rfl, g3, hB3, offB, hbegl, hbeg⟩
    -- none at all
    refine ⟨.ref B, rfl, Nat.zero_le _, fun p hp => ?_⟩
    have g4 := g3.new hp (o := .lst [])
    have hB4 := up_other (o := .lst []) hB3 hp
    refine ⟨_, _, .lst (SqL.of hB4) (dp_n beg), .lst (SqL.of upd_same) .nil, shaped_nL beg, rfl, _, rfl, ?_⟩
    rw [eqv_nil]
    generalize upd H3 p (.lst []) = H4 at *
    have gH4 : Go z H H4 (m + 1) := (Go.of x0 s2).trans g4
    by_cases e : beg = []
    · rw [decide_eq_true e]
      refine iteT ⟨Nat.zero_le _, fun p2 hp2 => ?_⟩
      exact q _ p2 [] none ((gH4.new hp2).mono (by omega)) (gH4.free hp2) upd_same rfl (fun x hx => nomatch hx) (Nat.zero_le _)
    rw [decide_eq_false e]
    refine iteF ?_
    -- row = [one of them]
    have hb1 : 1 ≤ beg.length := List.length_pos_iff.mpr e
    refine ⟨.ref z.d, rfl, .ref B, rfl, z, B, _, m + 1, rfl, g4.dk, by omega, hB4, offB, by rw [List.length_map]; exact hb1, by rw [List.length_map]; omega, fun H5 v hv go5 => ?_⟩
    obtain ⟨first, hfm, rfl⟩ := List.mem_map.mp hv
    have hfl := hbeg first hfm
    refine ⟨by show 1 ≤ sizeLine; decide, fun L hL => ?_⟩
    have g5 := g4.trans go5
    have g6 := g5.new hL (o := .lst [nV first])
    have hL6 : upd H5 L (.lst [nV first]) L = some (.lst [nV first]) := upd_same
    have hL2 : H2 L = none := g5.free hL
    generalize upd H5 L (.lst [nV first]) = H6 at *
    -- seen = [where it begins]
    have t6 : Tups H H6 := s2.tups.trans g6.tups
    obtain ⟨d, r, ys, hr_, hys, hyd, hd, eb, ee⟩ := (hR.mono t6).get (K := K) hfl
    refine ⟨.ref a, rfl, a, _, 0, .ref R, rfl, rfl, SqT.of (t6 _ _ hw), at_nat (j := 0) rfl, .ref L, rfl, L, _, 0, nV first, rfl, rfl, SqL.of hL6, at_nat (j := 0) rfl, R, ys, _, .ref d, rfl, rfl, hys, hyd, d, _, 0, oV r.b, rfl, rfl, SqT.of hd, at_nat (j := 0) rfl, by show 1 ≤ sizeLine; decide, fun S hS => ?_⟩
    rw [eb]
    have g7 := g6.new hS (o := .lst [oV (Bg rs first)])
    have hL7 := up_other (o := .lst [oV (Bg rs first)]) hL6 hS
    have hS7 : upd H6 S (.lst [oV (Bg rs first)]) S = some (.lst [oV (Bg rs first)]) := upd_same
    have hS2 : H2 S = none := g6.free hS
    have hLS : L ≠ S := ne_of_none hL6 hS
    generalize upd H6 S (.lst [oV (Bg rs first)]) = H7 at *
    clear hd hyd hys hr_ eb ee
    -- round
    refine ⟨fun n σ H' => ∃ (row : List Nat) (house : Option Nat) (y7 y8 : Option V), n + row.length = 10 ∧ σ = [some (.ref z.d), some (.ref a), some (.ref b), some (.ref Lt), some (.ref B), some (.ref L), some (.ref S), y7, y8, none, none] ∧ Go z H2 H' (m + 1 + row.length) ∧
      H' L = some (.lst (row.map nV)) ∧ H' S = some (.lst ((row.map (Bg rs)).map oV)) ∧ Rnd rs first row house, ⟨9, [first], En rs first, none, none, rfl, rfl, g7, hL7, hS7, Rnd.start hfl⟩, ?_⟩
    rintro n σ H8 ⟨row, house, y7, y8, hn, rfl, g8, hL8, hS8, rnd⟩
    have hlen := rnd.len lt1
    obtain ⟨kl, hkl, hkm⟩ := last_of rnd.ne
    have t8 : Tups H H8 := s2.tups.trans g8.tups
    obtain ⟨d, r, ys, hr_, hys, hyd, hd, eb, ee⟩ := (hR.mono t8).get (K := K) (rnd.lt kl hkm)
    have lastAt : atI (row.map nV) (-1) = some (nV kl) := by
      obtain ⟨r, e⟩ : ∃ r, row = r ++ [kl] := ⟨row.dropLast, by
        have zz : row.getLast rnd.ne = kl := by
          rw [List.getLast?_eq_getLast rnd.ne] at hkl
          exact Option.some.inj hkl
        rw [← zz, List.dropLast_concat_getLast]⟩
      rw [e, List.map_append]
      exact atI_last _ _
    have ehouse : r.e = house := ee.trans (chain_last rnd.ch hkl)
    refine ⟨.ref a, rfl, a, _, 0, .ref R, rfl, rfl, SqT.of (t8 _ _ hw), at_nat (j := 0) rfl, .ref L, rfl, 1, rfl, L, _, -1, nV kl, rfl, rfl, SqL.of hL8, lastAt, R, ys, _, .ref d, rfl, rfl, hys, hyd, d, _, 1, oV r.e, rfl, rfl, SqT.of hd, at_nat (j := 1) rfl, .ref S, rfl, by show 1 ≤ sizeLine; decide, fun p hp => ?_⟩
    have g9 := g8.new hp (o := .lst [V.non])
    have hS9 := up_other (o := .lst [V.non]) hS8 hp
    refine ⟨S, p, _, _, rfl, rfl, hS9, upd_same, by rw [List.length_map, List.length_map]; exact small_of (by simp only [List.length_singleton]; omega), fun q1 hq1 => ?_⟩
    have e9 : (row.map (Bg rs)).map oV ++ [V.non] = (row.map (Bg rs) ++ [none]).map oV := by
      rw [List.map_append]
      rfl
    rw [e9]
    have g10 := g9.new hq1 (o := .lst ((row.map (Bg rs) ++ [none]).map oV))
    have hS10 := up_other (o := .lst ((row.map (Bg rs) ++ [none]).map oV)) hS9 hq1
    have hL10 := up_other (o := .lst ((row.map (Bg rs) ++ [none]).map oV)) (up_other (o := .lst [V.non]) hL8 hp) hq1
    refine ⟨q1, _, rfl, .inl (SqL.of upd_same), flat_oV _, flats_oV _, _, rfl, ?_⟩
    rw [in_oV, ehouse]
    generalize upd (upd H8 p (.lst [V.non])) q1 (.lst ((row.map (Bg rs) ++ [none]).map oV)) = H10 at *
    have t10 : Tups H H10 := s2.tups.trans g10.tups
    obtain ⟨d, r', ys', hr'_, hys', hyd', hd', eb', ee'⟩ := (hR.mono t10).get (K := K) (rnd.lt kl hkm)
    have ehouse' : r'.e = house := ee'.trans (chain_last rnd.ch hkl)
    by_cases hin : house ∈ row.map (Bg rs) ++ [none]
    · rw [decide_eq_true hin]
      refine iteF ?_
      -- end
      refine ⟨.ref a, rfl, a, _, 0, .ref R, rfl, rfl, SqT.of (t10 _ _ hw), at_nat (j := 0) rfl, .ref L, rfl, 1, rfl, L, _, -1, nV kl, rfl, rfl, SqL.of hL10, lastAt, R, ys', _, .ref d, rfl, rfl, hys', hyd', d, _, 1, oV r'.e, rfl, rfl, SqT.of hd', at_nat (j := 1) rfl, ?_⟩
      rw [ehouse']
      -- first of the row
      have h0 : (row.map nV)[0]? = some (nV first) := by
        have e := rnd.hd
        rw [List.head?_eq_getElem?] at e
        rw [List.getElem?_map, e]
        rfl
      obtain ⟨d0, r0, ys0, hr0, hys0, hyd0, hd0, eb0, ee0⟩ := (hR.mono t10).get (K := K) hfl
      -- the end of it all
      have fin : house ∈ row.map (Bg rs) → ∃ at_ : Nat, (row.map (Bg rs))[at_]? = some house ∧ ∀ j, j < at_ → ∀ o, (row.map (Bg rs))[j]? = some o → o ≠ house := fun hin => by
        obtain ⟨pre, rest, epre, hno⟩ := List.eq_append_cons_of_mem hin
        refine ⟨pre.length, ?_, fun j hj o ho e => ?_⟩
        · rw [epre, List.getElem?_append_right (Nat.le_refl _), Nat.sub_self]
          rfl
        · rw [epre, List.getElem?_append_left hj] at ho
          rw [e] at ho
          exact hno (List.mem_of_getElem? ho)
      cases house with
      | none =>
        refine ⟨_, rfl, rfl, _, rfl, iteT ⟨.ref a, rfl, a, _, 0, .ref R, rfl, rfl, SqT.of (t10 _ _ hw), at_nat (j := 0) rfl, .ref L, rfl, L, _, 0, nV first, rfl, rfl, SqL.of hL10, at_nat h0, R, ys0, _, .ref d0, rfl, rfl, hys0, hyd0, d0, _, 0, oV r0.b, rfl, rfl, SqT.of hd0, at_nat (j := 0) rfl, rfl, _, rfl, ?_⟩⟩
        rw [dec_non, eb0]
        by_cases c : Bg rs first = none
        · rw [decide_eq_true c]
          refine iteF ?_
          obtain ⟨i, hi1, hi2⟩ := fin (by
            rw [← c]
            exact List.mem_map.mpr ⟨first, List.mem_of_mem_head? rnd.hd, rfl⟩)
          refine ⟨.ref L, rfl, .ref S, rfl, .inl ⟨rfl, _, SqL.of hS10⟩, _, rfl, S, _, oV none, i, oV none, rfl, rfl, SqL.of hS10, rfl, flats_oV _, ?_, rfl, ?_, by show 2 ≤ sizeLine; decide, fun p3 hp3 => ?_⟩
          · rw [List.getElem?_map, hi1]
            rfl
          · intro m' z' hm' hz
            rw [List.getElem?_map] at hz
            cases e : (row.map (Bg rs))[m']? with
            | none =>
              rw [e] at hz
              cases hz
            | some o =>
              rw [e] at hz
              have hz : oV o = z' := Option.some.inj hz
              subst hz
              rw [eq_oV]
              exact decide_eq_false (hi2 m' hm' o e)
          · refine ⟨_, rfl, rfl, .inr ⟨true, rfl, p3, _, 1, .int 0, rfl, rfl, SqL.of upd_same, at_nat (j := 1) rfl, 0, rfl, L, _, rfl, SqL.of (up_other hL10 hp3), fun p4 hp4 => ?_⟩⟩
            have g11 := (g10.new hp3 (o := .lst [nV i, V.int 0])).new hp4 (o := .lst (cutV (row.map nV) (some 0) none))
            have e : cutV (row.map nV) (some 0) none = row.map nV := (cut_from _ 0).trans (List.drop_zero)
            have ch := rnd.ch
            rw [c] at ch
            exact q _ p4 row none (((Go.of x0 s2).trans g11).mono (by omega)) (((Go.of x0 s2).trans (g10.new hp3)).free hp4) (by rw [upd_same, e]) ch rnd.lt (by omega)
        · rw [decide_eq_false c]
          refine iteT ⟨Nat.zero_le _, fun p2 hp2 => ?_⟩
          have g11 := (Go.of x0 s2).trans g10
          exact q _ p2 [] none ((g11.new hp2).mono (by omega)) (g11.free hp2) upd_same rfl (fun x hx => nomatch hx) (Nat.zero_le _)
      | some h =>
        refine ⟨_, rfl, rfl, _, rfl, iteF (iteF ?_)⟩
        obtain ⟨i, hi1, hi2⟩ := fin (by
          rcases List.mem_append.mp hin with h1 | h1
          · exact h1
          · cases List.mem_singleton.mp h1)
        refine ⟨.ref L, rfl, .ref S, rfl, .inl ⟨rfl, _, SqL.of hS10⟩, _, rfl, S, _, oV (some h), i, oV (some h), rfl, rfl, SqL.of hS10, rfl, flats_oV _, ?_, ?_, ?_, by show 2 ≤ sizeLine; decide, fun p3 hp3 => ?_⟩
        · rw [List.getElem?_map, hi1]
          rfl
        · rw [eq_oV]
          exact decide_eq_true rfl
        · intro m' z' hm' hz
          rw [List.getElem?_map] at hz
          cases e : (row.map (Bg rs))[m']? with
          | none =>
            rw [e] at hz
            cases hz
          | some o =>
            rw [e] at hz
            have hz : oV o = z' := Option.some.inj hz
            subst hz
            rw [eq_oV]
            exact decide_eq_false (hi2 m' hm' o e)
        · refine ⟨_, rfl, rfl, .inr ⟨false, rfl, p3, _, 0, nV i, rfl, rfl, SqL.of upd_same, at_nat (j := 0) rfl, (i : Int), rfl, L, _, rfl, SqL.of (up_other hL10 hp3), fun p4 hp4 => ?_⟩⟩
          have g11 := (g10.new hp3 (o := .lst [nV i, V.int 0])).new hp4 (o := .lst (cutV (row.map nV) (some (i : Int)) none))
          have e : cutV (row.map nV) (some (i : Int)) none = (row.drop i).map nV := by rw [cut_from, List.map_drop]
          exact q _ p4 (row.drop i) (some h) (((Go.of x0 s2).trans g11).mono (by omega)) (((Go.of x0 s2).trans (g10.new hp3)).free hp4) (by rw [upd_same, e]) (rnd.cut hi1) (fun j hj => rnd.lt j (List.mem_of_mem_drop hj)) (by rw [List.length_drop]; omega)
    · rw [decide_eq_false hin]
      obtain ⟨h, rfl⟩ : ∃ h, house = some h := by
        cases house with
        | none => exact absurd (List.mem_append_right _ (List.mem_singleton.mpr rfl)) hin
        | some h => exact ⟨h, rfl⟩
      have hni : some h ∉ row.map (Bg rs) := fun z => hin (List.mem_append_left _ z)
      refine iteT ⟨fun σ' H' => ∃ (j : Nat) (y7 y8 : Option V), σ' = [some (.ref z.d), some (.ref a), some (.ref b), some (.ref Lt), some (.ref B), some (.ref L), some (.ref S), y7, y8, none, none] ∧ Go z H2 H' (m + 1 + (row ++ [j]).length) ∧
        H' L = some (.lst ((row ++ [j]).map nV)) ∧ H' S = some (.lst (((row ++ [j]).map (Bg rs)).map oV)) ∧ Rnd rs first (row ++ [j]) (En rs j), fun σ' H' hN => ?_, ?_⟩
      · obtain ⟨j, y7', y8', e, g', hL', hS', rnd'⟩ := hN
        have hl' := rnd'.len lt1
        rw [List.length_append, List.length_singleton] at hl'
        exact ⟨n - 1, by omega, row ++ [j], En rs j, y7', y8', by rw [List.length_append, List.length_singleton]; omega, e, g', hL', hS', rnd'⟩
      -- house
      refine ⟨.ref a, rfl, a, _, 0, .ref R, rfl, rfl, SqT.of (t10 _ _ hw), at_nat (j := 0) rfl, .ref L, rfl, 1, rfl, L, _, -1, nV kl, rfl, rfl, SqL.of hL10, lastAt, R, ys', _, .ref d, rfl, rfl, hys', hyd', d, _, 1, oV r'.e, rfl, rfl, SqT.of hd', at_nat (j := 1) rfl, ?_⟩
      rw [ehouse']
      -- seen.append(house)
      refine ⟨.ref S, rfl, .inl ⟨rfl, _, SqL.of hS10⟩, _, rfl, S, _, _, rfl, rfl, hS10, by rw [List.length_map, List.length_map]; exact small_lt (by omega), ?_⟩
      have g11 := g10.put hS2 (o := .lst ((row.map (Bg rs)).map oV ++ [oV (some h)]))
      have hL11 : upd H10 S (.lst ((row.map (Bg rs)).map oV ++ [oV (some h)])) L = some (.lst (row.map nV)) := by
        rw [upd_ne hLS]
        exact hL10
      have hS11 : upd H10 S (.lst ((row.map (Bg rs)).map oV ++ [oV (some h)])) S = some (.lst ((row.map (Bg rs)).map oV ++ [oV (some h)])) := upd_same
      generalize upd H10 S (.lst ((row.map (Bg rs)).map oV ++ [oV (some h)])) = H11 at *
      have hLt11 := g11.lst offLt hLt2
      have t11 : Tups H H11 := s2.tups.trans g11.tups
      -- further
      refine ⟨.ref Lt, rfl, Lt, rfl, ⟨_, SqL.of hLt11⟩, fun Fu hFu => ?_⟩
      refine lc_list (K := K) (a := Lt) (xs := lit.map nV) (fun i H' => Same H11 H' ∧ ∃ ns : List Nat, H' Fu = some (.lst (ns.map nV)) ∧ ns.length ≤ i ∧ ∀ j, j ∈ ns → j < rs.length ∧ Bg rs j = some h) ⟨(Same.refl H11).new hFu, [], upd_same, Nat.le_refl 0, (fun x hx => nomatch hx)⟩ (fun i H' _ h => SqL.of (h.1 _ _ hLt11)) (fun i v H12 hv hp => ?_) (fun H12 hp => ?_)
      · obtain ⟨hs, ns, hacc, hnl, hns⟩ := hp
        obtain ⟨j, rfl, hj⟩ : ∃ j, v = nV j ∧ lit[i]? = some j := by
          rw [List.getElem?_map] at hv
          cases e : lit[i]? with
          | none =>
            rw [e] at hv
            cases hv
          | some j =>
            rw [e] at hv
            exact ⟨j, (Option.some.inj hv).symm, rfl⟩
        have hi : i < lit.length := (List.getElem?_eq_some_iff.mp hj).1
        have hjl : j < rs.length := hlit j (List.mem_of_getElem? hj)
        have tA := t11.trans hs.tups
        obtain ⟨d, r, ys, hr_, hys, hyd, hd, eb, ee⟩ := (hR.mono tA).get (K := K) hjl
        refine ⟨rfl, .ref a, rfl, a, _, 0, .ref R, rfl, rfl, SqT.of (tA _ _ hw), at_nat (j := 0) rfl, nV j, rfl, R, ys, _, .ref d, rfl, rfl, hys, hyd, d, _, 0, oV r.b, rfl, rfl, SqT.of hd, at_nat (j := 0) rfl, oV (some h), rfl, scal_oV _ _, _, rfl, ?_⟩
        rw [dec_oV, eb]
        by_cases c : Bg rs j = some h
        · rw [decide_eq_true c]
          refine iteT ⟨nV j, rfl, _, hacc, ?_, hs.put hFu, ns ++ [j], ?_, ?_, fun j' hj' => ?_⟩
          · rw [List.length_map]
            exact small_lt (by omega)
          · rw [upd_same, List.map_append]
            rfl
          · rw [List.length_append, List.length_singleton]
            omega
          · rcases List.mem_append.mp hj' with hj' | hj'
            · exact hns j' hj'
            · rw [List.mem_singleton.mp hj']
              exact ⟨hjl, c⟩
        · rw [decide_eq_false c]
          exact iteF ⟨hs, ns, hacc, by omega, hns⟩
      obtain ⟨s12', fu, hFu12, hful, hfu⟩ := hp
      rw [List.length_map] at hful
      have g12 := g11.trans (Go.of g11.dk s12')
      have offFu : Off z Fu := g11.dk.off hFu
      -- none
      refine ⟨.ref Fu, rfl, Nat.zero_le _, fun p5 hp5 => ?_⟩
      have g13 := g12.new hp5 (o := .lst [])
      have hFu13 := up_other (o := .lst []) hFu12 hp5
      have hL13 := up_other (o := .lst []) (s12' _ _ hL11) hp5
      have hS13 := up_other (o := .lst []) (s12' _ _ hS11) hp5
      refine ⟨_, _, .lst (SqL.of hFu13) (dp_n fu), .lst (SqL.of upd_same) .nil, shaped_nL fu, rfl, _, rfl, ?_⟩
      rw [eqv_nil]
      generalize upd H12 p5 (.lst []) = H13 at *
      by_cases e : fu = []
      · rw [decide_eq_true e]
        refine iteT ⟨Nat.zero_le _, fun p2 hp2 => ?_⟩
        have g14 := (Go.of x0 s2).trans g13
        exact q _ p2 [] none ((g14.new hp2).mono (by omega)) (g14.free hp2) upd_same rfl (fun x hx => nomatch hx) (Nat.zero_le _)
      rw [decide_eq_false e]
      refine iteF ?_
      have hf1 : 1 ≤ fu.length := List.length_pos_iff.mpr e
      refine ⟨.ref L, rfl, .inl ⟨rfl, _, SqL.of hL13⟩, .ref z.d, rfl, .ref Fu, rfl, z, Fu, _, _, rfl, g13.dk, by omega, hFu13, offFu, by rw [List.length_map]; exact hf1, by rw [List.length_map]; omega, fun H14 v hv go14 => ?_⟩
      obtain ⟨j, hjm, rfl⟩ := List.mem_map.mp hv
      obtain ⟨hj1, hj2⟩ := hfu j hjm
      obtain ⟨m0, x00⟩ := g13.was
      have hL14 := go14.lst (x00.off hL2) hL13
      have hS14 := go14.lst (x00.off hS2) hS13
      refine ⟨L, _, _, rfl, rfl, hL14, by rw [List.length_map]; exact small_lt (by omega), ?_⟩
      refine ⟨j, _, _, rfl, ((g13.trans go14).put hL2).mono (by rw [List.length_append, List.length_singleton]; omega), ?_, ?_, rnd.step hni hj1 hj2⟩
      · rw [upd_same, List.map_append]
        rfl
      · rw [upd_ne hLS.symm, hS14, List.map_append, List.map_append, ← hj2]
        rfl
end
end U12

set_option Elab.async false
set_option linter.all false
set_option maxRecDepth 100000
set_option maxHeartbeats 4000000
namespace U12
open PySem PySem.Spec PyProof.Rows L2
section
variable {P : Program} {w : World} {K : PySem.W.Frag} {mg : Str → Option Value} {base : Heap}
/-! ### _law_same, of texts and numbers -/
def sp_same0 : Sp := fun vs H Q _ => ∃ v : V, vs = [v, v] ∧ ((∃ s, v = .str s) ∨ ∃ i, v = .int i) ∧ Q (.bl true) H
theorem ok_same0 {f : Addr} {fd : FuncData} (D : Df K mg "_law_same" s__law_same P__law_same f fd) (T : Tx mg) : FnOk P w K mg base CX0 1 f fd P__law_same sp_same0 := by
  refine D.F.ok sc__law_same (fun vs H Q E h => ?_) (fun cdv A outer s H vs Q E hr h => ?_)
  · obtain ⟨v, rfl, _⟩ := h
    rfl
  · obtain ⟨v, rfl, hv, q⟩ := h
    refine ⟨_, pss_cons (ps_if (pt_val (pe_callB (isi (K := K)) (by rfl) T.isinstance (by decide +kernel) (pa_cons (pv 1) (pa_cons (pe_bltn (v := .ty "tuple") (by rfl) T.tuple_ (by decide +kernel) rfl) pa_nil))))
        pss_never
        pss_nil)
        (pss_cons (ps_if (pt_cmpR op_isN (pv 1) pe_non (nomark _))
        (pss_one (ps_ret (pe_cmpR op_isN (pv 0) pe_non (nomark _))))
        pss_nil)
        (pss_cons (ps_if (PW.pt (pw_or (pt_val (pe_callB (isi (K := K)) (by rfl) T.isinstance (by decide +kernel) (pa_cons (pv 1) (pa_cons (pe_bltn (v := .ty "bool") (by rfl) T.bool_ (by decide +kernel) rfl) pa_nil)))) (pw_or1 (pt_val (pe_callB (isi (K := K)) (by rfl) T.isinstance (by decide +kernel) (pa_cons (pv 0) (pa_cons (pe_bltn (v := .ty "bool") (by rfl) T.bool_ (by decide +kernel) rfl) pa_nil)))))))
        (pss_one (ps_ret (pe_and (pe_callB (isi (K := K)) (by rfl) T.isinstance (by decide +kernel) (pa_cons (pv 1) (pa_cons (pe_bltn (v := .ty "bool") (by rfl) T.bool_ (by decide +kernel) rfl) pa_nil))) (pe_and (pe_callB (isi (K := K)) (by rfl) T.isinstance (by decide +kernel) (pa_cons (pv 0) (pa_cons (pe_bltn (v := .ty "bool") (by rfl) T.bool_ (by decide +kernel) rfl) pa_nil))) (pe_one (pe_cmpR op_eq (pv 0) (pv 1) (nomark _)))))))
        pss_nil)
        (pss_cons (ps_if (pt_val (pe_callB (isi (K := K)) (by rfl) T.isinstance (by decide +kernel) (pa_cons (pv 1) (pa_cons (pe_bltn (v := .ty "str") (by rfl) T.str_ (by decide +kernel) rfl) pa_nil))))
        (pss_one (ps_ret (pe_and (pe_callB (isi (K := K)) (by rfl) T.isinstance (by decide +kernel) (pa_cons (pv 0) (pa_cons (pe_bltn (v := .ty "str") (by rfl) T.str_ (by decide +kernel) rfl) pa_nil))) (pe_one (pe_cmpR op_eq (pv 0) (pv 1) (nomark _))))))
        pss_nil)
        (pss_one (ps_ret (pe_and (pe_callB (isi (K := K)) (by rfl) T.isinstance (by decide +kernel) (pa_cons (pv 0) (pa_cons (pe_bltn (v := .ty "int") (by rfl) T.int_ (by decide +kernel) rfl) pa_nil))) (pe_one (pe_cmpR op_eq (pv 0) (pv 1) (nomark _))))))))), ?_⟩
    rcases hv with ⟨t, rfl⟩ | ⟨i, rfl⟩
    · refine ⟨_, rfl, _, .ty "tuple", _, _, false, rfl, ClsV.ty _, .base (.str _), kit_ty (a := "str") (b := "tuple") (by decide +kernel), false, rfl, iteF ?_⟩
      refine ⟨_, rfl, rfl, _, rfl, iteF ?_⟩
      refine ⟨_, rfl, _, .ty "bool", _, _, false, rfl, ClsV.ty _, .base (.str _), kit_ty (a := "str") (b := "bool") (by decide +kernel), false, rfl, iteF ⟨_, rfl, _, .ty "bool", _, _, false, rfl, ClsV.ty _, .base (.str _), kit_ty (a := "str") (b := "bool") (by decide +kernel), false, rfl, iteF ?_⟩⟩
      refine ⟨_, rfl, _, .ty "str", _, _, true, rfl, ClsV.ty _, .base (.str _), kit_ty (a := "str") (b := "str") (by decide +kernel), true, rfl, iteT ?_⟩
      refine ⟨_, rfl, _, .ty "str", _, _, true, rfl, ClsV.ty _, .base (.str _), kit_ty (a := "str") (b := "str") (by decide +kernel), true, rfl, iteT ?_⟩
      refine ⟨_, rfl, _, rfl, rfl, ?_⟩
      rw [decide_eq_true rfl]
      exact q
    · refine ⟨_, rfl, _, .ty "tuple", _, _, false, rfl, ClsV.ty _, .base (.int _), kit_ty (a := "int") (b := "tuple") (by decide +kernel), false, rfl, iteF ?_⟩
      refine ⟨_, rfl, rfl, _, rfl, iteF ?_⟩
      refine ⟨_, rfl, _, .ty "bool", _, _, false, rfl, ClsV.ty _, .base (.int _), kit_ty (a := "int") (b := "bool") (by decide +kernel), false, rfl, iteF ⟨_, rfl, _, .ty "bool", _, _, false, rfl, ClsV.ty _, .base (.int _), kit_ty (a := "int") (b := "bool") (by decide +kernel), false, rfl, iteF ?_⟩⟩
      refine ⟨_, rfl, _, .ty "str", _, _, false, rfl, ClsV.ty _, .base (.int _), kit_ty (a := "int") (b := "str") (by decide +kernel), false, rfl, iteF ?_⟩
      refine ⟨_, rfl, _, .ty "int", _, _, true, rfl, ClsV.ty _, .base (.int _), kit_ty (a := "int") (b := "int") (by decide +kernel), true, rfl, iteT ?_⟩
      refine ⟨_, rfl, _, rfl, rfl, ?_⟩
      rw [decide_eq_true rfl]
      exact q
/-! ### _law_same, of pairs -/
def sp_same (K : PySem.W.Frag) : Sp := fun vs H Q _ => ∃ (p p' : Addr) (s : Str) (i : Int), vs = [.ref p, .ref p'] ∧ H p = some (.tup [.str s, .int i]) ∧ H p' = some (.tup [.str s, .int i]) ∧ ∀ H', Same H H' → Q (.bl true) H'
theorem ok_same {f : Addr} {fd : FuncData} (D : Df K mg "_law_same" s__law_same P__law_same f fd) (T : Tx mg) : FnOk P w K mg base CX0 2 f fd P__law_same (sp_same K) := by
  have D__law_same := D
  have G__law_same : FnOk P w K mg base CX0 1 f fd P__law_same sp_same0 := ok_same0 D T
  refine D.F.ok sc__law_same (fun vs H Q E h => ?_) (fun cdv A outer s H vs Q E hr h => ?_)
  · obtain ⟨p, p', t, i, rfl, _⟩ := h
    rfl
  · obtain ⟨p, p', t, i, rfl, hp, hp', q⟩ := h
    refine ⟨_, pss_cons (ps_if (pt_val (pe_callB (isi (K := K)) (by rfl) T.isinstance (by decide +kernel) (pa_cons (pv 1) (pa_cons (pe_bltn (v := .ty "tuple") (by rfl) T.tuple_ (by decide +kernel) rfl) pa_nil))))
        (pss_cons (ps_if (PW.pt (pw_or (pt_not (pt_val (pe_callB (isi (K := K)) (by rfl) T.isinstance (by decide +kernel) (pa_cons (pv 0) (pa_cons (pe_bltn (v := .ty "tuple") (by rfl) T.tuple_ (by decide +kernel) rfl) pa_nil))))) (pw_or1 (pt_cmpR op_ne (pe_callB (lenS (K := K)) (by rfl) T.len PySem.boot_len (pa_cons (pv 0) pa_nil)) (pe_callB (lenS (K := K)) (by rfl) T.len PySem.boot_len (pa_cons (pv 1) pa_nil)) (nomark _)))))
        (pss_one (ps_ret pe_bl))
        pss_nil)
        (pss_one (ps_ret (pe_callB (crAll (K := K) rfl) (by rfl) T.all (by decide +kernel) (pa_cons (pe_lc (own := [(("_law_k" : Str), 2)]) (g := gName 2) (tt := tYes) rfl sc__law_same.nd (pi_range1 rfl T.range (pa_cons (pe_callB (lenS (K := K)) (by rfl) T.len PySem.boot_len (pa_cons (pv 1) pa_nil)) pa_nil)) (blkOk_by (own := [(("_law_k" : Str), 2)]) (N := N__law_same) (sc := defScope s__law_same) (by decide +kernel)) (fun _ _ _ _ _ => (pg_name (i := 2) sc__law_same.nd rfl (.inl rfl))) (fun _ _ _ _ _ => pts_nil) (fun _ _ _ _ _ => (pe_call G__law_same (hr.mono (by decide)) (by rfl) D__law_same.g D__law_same.F.kp D__law_same.b .nil pass0 (pa_cons (pe_ix (ixT (K := K)) (pv 0) (pv 2) (fun _ _ => rfl)) (pa_cons (pe_ix (ixT (K := K)) (pv 1) (pv 2) (fun _ _ => rfl)) pa_nil))))) pa_nil)))))
        pss_nil)
        (pss_cons (ps_if (pt_cmpR op_isN (pv 1) pe_non (nomark _))
        (pss_one (ps_ret (pe_cmpR op_isN (pv 0) pe_non (nomark _))))
        pss_nil)
        (pss_cons (ps_if (PW.pt (pw_or (pt_val (pe_callB (isi (K := K)) (by rfl) T.isinstance (by decide +kernel) (pa_cons (pv 1) (pa_cons (pe_bltn (v := .ty "bool") (by rfl) T.bool_ (by decide +kernel) rfl) pa_nil)))) (pw_or1 (pt_val (pe_callB (isi (K := K)) (by rfl) T.isinstance (by decide +kernel) (pa_cons (pv 0) (pa_cons (pe_bltn (v := .ty "bool") (by rfl) T.bool_ (by decide +kernel) rfl) pa_nil)))))))
        (pss_one (ps_ret (pe_and (pe_callB (isi (K := K)) (by rfl) T.isinstance (by decide +kernel) (pa_cons (pv 1) (pa_cons (pe_bltn (v := .ty "bool") (by rfl) T.bool_ (by decide +kernel) rfl) pa_nil))) (pe_and (pe_callB (isi (K := K)) (by rfl) T.isinstance (by decide +kernel) (pa_cons (pv 0) (pa_cons (pe_bltn (v := .ty "bool") (by rfl) T.bool_ (by decide +kernel) rfl) pa_nil))) (pe_one (pe_cmpR op_eq (pv 0) (pv 1) (nomark _)))))))
        pss_nil)
        (pss_cons (ps_if (pt_val (pe_callB (isi (K := K)) (by rfl) T.isinstance (by decide +kernel) (pa_cons (pv 1) (pa_cons (pe_bltn (v := .ty "str") (by rfl) T.str_ (by decide +kernel) rfl) pa_nil))))
        (pss_one (ps_ret (pe_and (pe_callB (isi (K := K)) (by rfl) T.isinstance (by decide +kernel) (pa_cons (pv 0) (pa_cons (pe_bltn (v := .ty "str") (by rfl) T.str_ (by decide +kernel) rfl) pa_nil))) (pe_one (pe_cmpR op_eq (pv 0) (pv 1) (nomark _))))))
        pss_nil)
        (pss_one (ps_ret (pe_and (pe_callB (isi (K := K)) (by rfl) T.isinstance (by decide +kernel) (pa_cons (pv 0) (pa_cons (pe_bltn (v := .ty "int") (by rfl) T.int_ (by decide +kernel) rfl) pa_nil))) (pe_one (pe_cmpR op_eq (pv 0) (pv 1) (nomark _))))))))), ?_⟩
    refine ⟨_, rfl, _, .ty "tuple", _, _, true, rfl, ClsV.ty _, .base (.tup hp'), kit_ty (a := "tuple") (b := "tuple") (by decide +kernel), true, rfl, iteT ?_⟩
    refine ⟨_, rfl, _, .ty "tuple", _, _, true, rfl, ClsV.ty _, .base (.tup hp), kit_ty (a := "tuple") (b := "tuple") (by decide +kernel), true, rfl, iteF ?_⟩
    refine ⟨_, rfl, p, _, rfl, .inr (SqT.of hp), _, rfl, p', _, rfl, .inr (SqT.of hp'), rfl, _, rfl, ?_⟩
    rw [decide_eq_true rfl]
    refine iteF ?_
    refine ⟨_, rfl, p', _, rfl, .inr (SqT.of hp'), _, rfl, by show -(2 ^ 62 : Int) ≤ 2; decide, by show (2 : Int) < 2 ^ 62; decide, fun D1 hD1 => ?_⟩
    refine lc_range (fun k H' => Same H H' ∧ H' D1 = some (.lst ((List.replicate k true).map V.bl))) ⟨(Same.refl H).new hD1, upd_same⟩ (fun k H1 hk hp1 => ?_) (fun H1 hp1 => ?_)
    · obtain ⟨hs, hacc⟩ := hp1
      rw [Int.zero_add]
      obtain ⟨v, hv, hv2⟩ : ∃ v, [V.str t, V.int i][k]? = some v ∧ ((∃ s, v = .str s) ∨ ∃ i, v = .int i) := by
        have hk2 : k < 2 := hk
        match k, hk2 with
        | 0, _ => exact ⟨_, rfl, .inl ⟨_, rfl⟩⟩
        | 1, _ => exact ⟨_, rfl, .inr ⟨_, rfl⟩⟩
      have hk2 : k < 2 := hk
      refine ⟨rfl, _, rfl, nV k, rfl, p, _, (k : Int), v, rfl, rfl, SqT.of (hs _ _ hp), at_nat hv, _, rfl, nV k, rfl, p', _, (k : Int), v, rfl, rfl, SqT.of (hs _ _ hp'), at_nat hv, v, rfl, hv2, _, hacc, ?_, hs.put hD1, ?_⟩
      · rw [List.length_map, List.length_replicate]
        exact small_lt (by omega)
      · rw [upd_same, trues_snoc]
    obtain ⟨s1, hB⟩ := hp1
    refine ⟨D1, _, rfl, SqL.of hB, ?_⟩
    rw [trues]
    exact q H1 s1
end
end U12

set_option Elab.async false
set_option linter.all false
set_option maxRecDepth 100000
set_option maxHeartbeats 4000000
namespace U12
open PySem PySem.Spec PyProof.Rows L2
def rowD (p : List Nat × Int) : PyData := .tuple [.tuple (p.1.map fun k : Nat => PyData.int (k : Int)), .int p.2]
theorem rowD_flat (p : List Nat × Int) : PyData.canLay0 (rowD p) = true ∧ PyData.depth (rowD p) ≤ 2 := by
  have q := flats_int (p.1.map fun k : Nat => ((k : Nat) : Int))
  rw [← nats_ints] at q
  constructor
  · show (PyData.canLayAll0 (p.1.map fun k : Nat => PyData.int (k : Int)) && true) = true
    rw [q.1]
    rfl
  · show max (PyData.depthAll (p.1.map fun k : Nat => PyData.int (k : Int)) + 1) 0 + 1 ≤ 2
    rw [q.2]
    decide
theorem rowsD_flat : ∀ rows : Rows, PyData.canLayAll0 (rows.map rowD) = true ∧ PyData.depthAll (rows.map rowD) ≤ 2
  | [] => ⟨rfl, Nat.zero_le _⟩
  | p :: r => by
    have a := rowD_flat p
    have b := rowsD_flat r
    constructor
    · show (PyData.canLay0 (rowD p) && PyData.canLayAll0 (r.map rowD)) = true
      rw [a.1, b.1]
      rfl
    · show max (PyData.depth (rowD p)) (PyData.depthAll (r.map rowD)) ≤ 2
      omega
theorem shaped_rows (rows : Rows) : SeqAt.shaped (.tuple (rows.map rowD)) = true := by
  unfold SeqAt.shaped
  show (PyData.canLayAll0 (rows.map rowD) && decide (PyData.depthAll (rows.map rowD) + 1 ≤ 64)) = true
  have q := rowsD_flat rows
  rw [q.1, Bool.true_and]
  exact decide_eq_true (by omega)
theorem dp_rows {K : PySem.W.Frag} {H : Hp} : ∀ {as : List Addr} {rows : Rows}, RowsAt H as rows → DpAll K H (as.map V.ref) (rows.map rowD)
  | [], [], _ => .nil
  | [], p :: r, h => by
    have z := h.1
    simp at z
  | a :: as, [], h => by
    have z := h.1
    simp at z
  | a :: as, p :: r, h => by
    obtain ⟨t, h1, h2⟩ := h.2 0 a p rfl rfl
    refine .cons (.tup (SqT.of h1) (.cons (.tup (SqT.of h2) (dp_n p.1)) (.cons (.int _) .nil))) (dp_rows ⟨?_, fun i a' p' e1 e2 => h.2 (i + 1) a' p' e1 e2⟩)
    have z := h.1
    simpa using z
/-- what the roads bear more than they may -/
def overTo (rs : List Road) (bs : List Int) (i : Nat) : List Nat := (List.range i).filter fun k => decide (Rm rs k < bs.getD k 0)
theorem overTo_succ (rs : List Road) (bs : List Int) (i : Nat) : overTo rs bs (i + 1) = if Rm rs i < bs.getD i 0 then overTo rs bs i ++ [i] else overTo rs bs i := by
  unfold overTo
  rw [List.range_succ, List.filter_append]
  by_cases h : Rm rs i < bs.getD i 0
  · rw [if_pos h, List.filter_cons_of_pos (p := fun k => decide (Rm rs k < bs.getD k 0)) (decide_eq_true h), List.filter_nil]
  · rw [if_neg h, List.filter_cons_of_neg (p := fun k => decide (Rm rs k < bs.getD k 0)) (fun z => h (of_decide_eq_true z)), List.filter_nil, List.append_nil]
theorem overTo_len (rs : List Road) (bs : List Int) (i : Nat) : (overTo rs bs i).length ≤ i := filter_len _ i
theorem overTo_nil {rs : List Road} {bs : List Int} {n : Nat} (h : overTo rs bs n = []) : ∀ j, j < n → bs.getD j 0 ≤ Rm rs j := fun j hj => by
  have q := List.filter_eq_nil_iff.mp h j (List.mem_range.mpr hj)
  rw [decide_eq_true_eq] at q
  omega
theorem overTo_first {rs : List Road} {bs : List Int} {i j : Nat} {rest : List Nat} : ∀ {n : Nat}, overTo rs bs n = i :: rest → j < n → Rm rs j < bs.getD j 0 → (∀ k, k < j → bs.getD k 0 ≤ Rm rs k) → j = i
  | 0, h, _, _, _ => by cases h
  | n + 1, h, hj, p, first => by
    rw [overTo_succ] at h
    by_cases c : j = n
    · subst c
      have e : overTo rs bs j = [] := by
        refine List.filter_eq_nil_iff.mpr fun k hk => ?_
        rw [decide_eq_true_eq]
        have z := first k (List.mem_range.mp hk)
        omega
      rw [if_pos p, e] at h
      exact (List.cons.inj h).1
    · have hjn : j < n := by omega
      have e : ∃ rest', overTo rs bs n = i :: rest' := by
        have hm : j ∈ overTo rs bs n := List.mem_filter.mpr ⟨List.mem_range.mpr hjn, decide_eq_true p⟩
        cases ee : overTo rs bs n with
        | nil =>
          rw [ee] at hm
          cases hm
        | cons x r =>
          rw [ee] at h
          split at h
          · exact ⟨r, by rw [(List.cons.inj h).1]⟩
          · exact ⟨r, by rw [(List.cons.inj h).1]⟩
      obtain ⟨rest', e⟩ := e
      exact overTo_first e hjn p first
theorem zeros_nn (n j : Nat) : 0 ≤ (List.replicate n (0 : Int)).getD j 0 := by
  rw [List.getD_eq_getElem?_getD, List.getElem?_replicate]
  split <;> exact Int.le_refl 0
theorem rep_zero (n : Nat) : List.replicate n (V.int 0) = (List.replicate n (0 : Int)).map V.int := by
  rw [List.map_replicate]
section
variable {P : Program} {w : World} {K : PySem.W.Frag} {mg : Str → Option Value} {base : Heap}
/-! ### law -/
def sp_law (K : PySem.W.Frag) : Sp := fun vs H Q _ => ∃ (a : Addr) (ns : List Int), vs = [.ref a] ∧ SqL K H a (ns.map V.int) ∧ ns.length ≤ 63 ∧ ∀ H', Q (.bl true) H'
theorem ok_law {f f1 f2 f3 f4 f5 f6 f7 f8 f9 : Addr} {fd fd1 fd2 fd3 fd4 fd5 fd6 fd7 fd8 fd9 : FuncData} (D : Df K mg "law" s_law P_law f fd) (T : Tx mg)
    (D__law_deck : Df K mg "_law_deck" s__law_deck P__law_deck f1 fd1) (G__law_deck : FnOk P w K mg base CX0 1 f1 fd1 P__law_deck (sp_deck K))
    (D__law_next : Df K mg "_law_next" s__law_next P__law_next f2 fd2) (G__law_next : FnOk P w K mg base CX0 1 f2 fd2 P__law_next (sp_next K))
    (D__law_one : Df K mg "_law_one" s__law_one P__law_one f3 fd3) (G__law_one : FnOk P w K mg base CX0 2 f3 fd3 P__law_one (sp_one K))
    (D__law_web : Df K mg "_law_web" s__law_web P__law_web f4 fd4) (G__law_web : FnOk P w K mg base CX0 5 f4 fd4 P__law_web (sp_web K))
    (D__law_round : Df K mg "_law_round" s__law_round P__law_round f5 fd5) (G__law_round : FnOk P w K mg base CX0 3 f5 fd5 P__law_round (sp_round K))
    (D__law_same : Df K mg "_law_same" s__law_same P__law_same f6 fd6) (G__law_same : FnOk P w K mg base CX0 2 f6 fd6 P__law_same (sp_same K))
    (D_streamfault : Df K mg "streamfault" s_streamfault P_streamfault f7 fd7) (G_streamfault : FnOk P w K mg base CX0 3 f7 fd7 P_streamfault (sp_streamfault K))
    (D_bundle : Df K mg "bundle" s_bundle P_bundle f8 fd8) (G_bundle : FnOk P w K mg base CX0 3 f8 fd8 P_bundle (sp_bundle K))
    (D_bundle_holds : Df K mg "bundle_holds" s_bundle_holds P_bundle_holds f9 fd9) (G_bundle_holds : FnOk P w K mg base CX0 4 f9 fd9 P_bundle_holds (sp_bundle_holds K)) :
    FnOk P w K mg base CX0 6 f fd P_law (sp_law K) := by
  refine D.F.ok sc_law (fun vs H Q E h => ?_) (fun cdv A outer s H vs Q E hr h => ?_)
  · obtain ⟨a, ns, rfl, _⟩ := h
    rfl
  · obtain ⟨a, ns, rfl, hS, hns, q⟩ := h
    refine ⟨_, pss_cons (ps_set (i := 1) sc_law.nd rfl (.inl rfl) (pe_call G__law_deck (hr.mono (by decide)) (by rfl) D__law_deck.g D__law_deck.F.kp D__law_deck.b .nil pass0 (pa_cons (pv 0) pa_nil)))
        (pss_cons (ps_for PassesOwn.never rfl (pi_range1 rfl T.range (pa_cons pe_int pa_nil)) (pg_name (i := 2) sc_law.nd rfl (.inl rfl))
        (pss_cons (ps_set (i := 3) sc_law.nd rfl (.inr rfl) (pe_call G__law_web (hr.mono (by decide)) (by rfl) D__law_web.g D__law_web.F.kp D__law_web.b .nil pass0 (pa_cons (pv 1) (pa_cons pe_int (pa_cons pe_int (pa_cons (pe_cmpR op_eq (pe_call G__law_next (hr.mono (by decide)) (by rfl) D__law_next.g D__law_next.F.kp D__law_next.b .nil pass0 (pa_cons (pv 1) (pa_cons pe_int pa_nil))) pe_int (nomark _)) pa_nil))))))
        (pss_cons (ps_set (i := 4) sc_law.nd rfl (.inl rfl) (pe_op op_rep (pe_lst (pa_cons pe_int pa_nil)) (pe_callB (lenS (K := K)) (by rfl) T.len PySem.boot_len (pa_cons (pe_ix (ixT (K := K)) (pv 3) pe_int (fun _ _ => rfl)) pa_nil))))
        (pss_cons (ps_for PassesOwn.never rfl (pi_range1 rfl T.range (pa_cons (pe_op op_add pe_int (pe_call G__law_next (hr.mono (by decide)) (by rfl) D__law_next.g D__law_next.F.kp D__law_next.b .nil pass0 (pa_cons (pv 1) (pa_cons pe_int pa_nil)))) pa_nil)) (pg_name (i := 5) sc_law.nd rfl (.inl rfl))
        (pss_cons (ps_par (i := 6) (j := 7) rfl sc_law.nd rfl rfl (by decide) rfl rfl (pa_cons (pe_call G__law_round (hr.mono (by decide)) (by rfl) D__law_round.g D__law_round.F.kp D__law_round.b .nil pass0 (pa_cons (pv 1) (pa_cons (pv 3) (pa_cons (pe_op op_rep (pe_lst (pa_cons pe_int pa_nil)) (pe_callB (lenS (K := K)) (by rfl) T.len PySem.boot_len (pa_cons (pe_ix (ixT (K := K)) (pv 3) pe_int (fun _ _ => rfl)) pa_nil))) pa_nil)))) (pa_cons (pe_op op_add pe_int (pe_call G__law_next (hr.mono (by decide)) (by rfl) D__law_next.g D__law_next.F.kp D__law_next.b .nil pass0 (pa_cons (pv 1) (pa_cons (pe_call G__law_one (hr.mono (by decide)) (by rfl) D__law_one.g D__law_one.F.kp D__law_one.b .nil pass0 (pa_cons (pv 1) (pa_cons (pe_lst (pa_cons pe_int (pa_cons (pe_op op_pow pe_int pe_int) pa_nil))) pa_nil))) pa_nil)))) pa_nil)) (by rfl))
        (pss_one (ps_for PassesOwn.never rfl (iList_ (K := K) (pv 6)) (pg_name (i := 8) sc_law.nd rfl (.inl rfl))
        (pss_one (ps_asg (pe_op op_add (pe_ix (ixL (K := K)) (pv 4) (pv 8) (fun _ _ => rfl)) (pv 7)) (pg_sub (pv 4) (pv 8) set_list)))))))
        (pss_cons (ps_set (i := 9) sc_law.nd rfl (.inr rfl) (pe_callTy (tupOf (K := K)) (by rfl) T.tuple_ (by decide +kernel) (pa_cons (pv 4) pa_nil)))
        (pss_cons (ps_setLc (i := 10) (own := [(("_law_k" : Str), 5)]) (g := gName 5) rfl sc_law.nd rfl rfl (sw_true rfl rfl rfl (by decide +kernel)) (pi_range1 rfl T.range (pa_cons (pe_callB (lenS (K := K)) (by rfl) T.len PySem.boot_len (pa_cons (pv 9) pa_nil)) pa_nil)) (blkOk_by (own := [(("_law_k" : Str), 5)]) (N := N_law) (sc := defScope s_law) (by decide +kernel)) (fun _ _ _ _ _ => (pg_name (i := 5) sc_law.nd rfl (.inl rfl))) (fun _ _ _ _ _ => (pts_one (pt_cmpR op_gt (pe_ix (ixT (K := K)) (pv 9) (pv 5) (fun _ _ => rfl)) (pe_ix (ixT (K := K)) (pe_ix (ixT (K := K)) (pe_ix (ixT (K := K)) (pv 3) pe_int (fun _ _ => rfl)) (pv 5) (fun _ _ => rfl)) pe_int (fun _ _ => rfl)) (nomark _)))) (fun _ _ _ _ _ => (pv 5)))
        (pss_one (ps_if (pt_cmpR (neD (K := K) hr.units) (pv 10) (pe_lst pa_nil) (nomark _))
        (pss_one (ps_if (pt_not (pt_val (pe_call G__law_same (hr.mono (by decide)) (by rfl) D__law_same.g D__law_same.F.kp D__law_same.b .nil pass0 (pa_cons (pe_call G_streamfault (hr.mono (by decide)) (by rfl) D_streamfault.g D_streamfault.F.kp D_streamfault.b .nil pass0 (pa_cons (pv 3) (pa_cons (pv 9) pa_nil))) (pa_cons (pe_tup (pa_cons pe_str (pa_cons (pe_ix (ixL (K := K)) (pv 10) pe_int (fun _ _ => rfl)) pa_nil))) pa_nil)))))
        (pss_one (ps_ret pe_bl))
        pss_nil))
        (pss_cons (ps_set (i := 11) sc_law.nd rfl (.inl rfl) (pe_call G_bundle (hr.mono (by decide)) (by rfl) D_bundle.g D_bundle.F.kp D_bundle.b .nil pass0 (pa_cons (pv 3) (pa_cons (pv 9) pa_nil))))
        (pss_cons (ps_if (PW.pt (pw_or (pt_cmpR op_notN (pe_call G_streamfault (hr.mono (by decide)) (by rfl) D_streamfault.g D_streamfault.F.kp D_streamfault.b .nil pass0 (pa_cons (pv 3) (pa_cons (pv 9) pa_nil))) pe_non (nomark _)) (pw_or1 (pt_cmpR op_notBl (pe_call G_bundle_holds (hr.mono (by decide)) (by rfl) D_bundle_holds.g D_bundle_holds.F.kp D_bundle_holds.b .nil pass0 (pa_cons (pv 3) (pa_cons (pv 9) (pa_cons (pv 11) pa_nil)))) pe_bl (nomark _)))))
        (pss_one (ps_ret pe_bl))
        pss_nil)
        (pss_one (ps_if (PW.pt (pw_and (pt_cmpR (neD (K := K) hr.units) (pv 11) (pe_tup pa_nil) (nomark _)) (pw_and1 (pt_cmpR op_notBl (pe_call G_bundle_holds (hr.mono (by decide)) (by rfl) D_bundle_holds.g D_bundle_holds.F.kp D_bundle_holds.b .nil pass0 (pa_cons (pv 3) (pa_cons (pv 9) (pa_cons (pe_op (catT (K := K)) (pv 11) (pv 11)) pa_nil)))) pe_bl (nomark _)))))
        (pss_one (ps_ret pe_bl))
        pss_nil))))))))))))
        (pss_one (ps_ret pe_bl))), ?_⟩
    refine ⟨.ref a, rfl, a, ns, rfl, hS, hns, fun H1 z s1 _ x1 => ?_⟩
    -- eight turns
    refine ⟨8, rfl, by decide, by decide, for_range (fun i σ H' => ∃ y2 y3 y4 y5 y6 y7 y8 y9 y10 y11 : Option V, σ = [some (.ref a), some (.ref z.d), y2, y3, y4, y5, y6, y7, y8, y9, y10, y11] ∧ DeckAt H' z (700 * i)) ⟨none, none, none, none, none, none, none, none, none, none, rfl, x1⟩ (fun i σ H2 hi hp => ?_) (fun σ H2 hp => ?_)⟩
    rotate_left
    · exact q _
    obtain ⟨y2, y3, y4, y5, y6, y7, y8, y9, y10, y11, rfl, x2⟩ := hp
    have hi8 : i < 8 := hi
    have nxt : ∀ {H' : Hp} {m : Nat}, DeckAt H' z m → m ≤ 700 * i + 700 → DeckAt H' z (700 * (i + 1)) := fun x h => x.mono (by omega)
    generalize hm : 700 * i = m at *
    have hm6 : m ≤ 5600 := by omega
    -- the web
    refine ⟨.ref z.d, rfl, .ref z.d, rfl, z, 2, m, rfl, x2, by omega, by decide, by decide, fun H3 r r0 r1 go3 => ⟨rfl, z, _, m + 1, rfl, go3.dk, by omega, fun H4 W rs k go4 hW => ?_⟩⟩
    obtain ⟨R, G, Tk, gs, hw, hR, hG, hk⟩ := hW.at_
    obtain ⟨xs, hxs, hxl, hxa⟩ := seq_at (K := K) hR
    have h20 := hW.few
    have x4 := go4.dk
    clear go3 go4 x2 r0 r1 s1 x1 hi hi8 hS
    -- bears
    refine ⟨by show 1 ≤ sizeLine; decide, fun p1 hp1 => ?_⟩
    have g5 := (Go.refl x4).new hp1 (o := .lst [V.int 0])
    refine ⟨.ref W, rfl, W, _, 0, .ref R, rfl, rfl, SqT.of (g5.tups _ _ hw), at_nat (j := 0) rfl, R, xs, rfl, .inr (((Same.refl H4).new hp1).seqT hxs), p1, (xs.length : Int), [V.int 0], rfl, rfl, upd_same, by omega, by omega, ?_, fun B hB => ?_⟩
    · show 1 * ((xs.length : Int)).toNat ≤ sizeLine
      exact small_of (by omega)
    rw [rep_flat, Int.toNat_natCast, hxl, rep_zero]
    have g6 := g5.new hB (o := .lst ((List.replicate rs.length (0 : Int)).map V.int))
    have hB6 : upd (upd H4 p1 (.lst [V.int 0])) B (.lst ((List.replicate rs.length (0 : Int)).map V.int)) B = some (.lst ((List.replicate rs.length (0 : Int)).map V.int)) := upd_same
    have hB4 : H4 B = none := g5.free hB
    have offB : Off z B := g5.off hB
    generalize upd (upd H4 p1 (.lst [V.int 0])) B (.lst ((List.replicate rs.length (0 : Int)).map V.int)) = H6 at *
    clear g5 hp1 hB
    -- rounds
    refine ⟨.ref z.d, rfl, z, 6, _, rfl, g6.dk, by omega, by decide, by decide, fun H7 n n0 n1 go7 => ?_⟩
    have g7 := g6.trans go7
    have hB7 := go7.lst offB hB6
    refine ⟨1, n, rfl, rfl, 1 + n, rfl, by omega, by omega, for_range (fun j σ H' => ∃ (y2 y5 y6 y7 y8 : Option V) (bs : List Int), σ = [some (.ref a), some (.ref z.d), y2, some (.ref W), some (.ref B), y5, y6, y7, y8, y9, y10, y11] ∧ Go z H4 H' (m + 1 + 500 + 1 + 22 * j) ∧
      H' B = some (.lst (bs.map V.int)) ∧ bs.length = rs.length ∧ (∀ j, j < rs.length → 0 ≤ bs.getD j 0) ∧ Bal rs bs) ⟨_, y5, y6, y7, y8, List.replicate rs.length 0, rfl, g7, hB7, List.length_replicate, fun j _ => zeros_nn _ j, Bal.zero rs⟩ (fun j σ H8 hj hp => ?_) (fun σ H8 hp => ?_)⟩
    · obtain ⟨z2, z5, z6, z7, z8, bs, rfl, g8, hB8, hbl, hnn, hbal⟩ := hp
      have hj6 : j < 6 := by omega
      -- a round
      have hW8 := hW.mono g8.tups
      refine ⟨.ref z.d, rfl, .ref W, rfl, by show 1 ≤ sizeLine; decide, fun p1 hp1 => ?_⟩
      have g9 := g8.new hp1 (o := .lst [V.int 0])
      refine ⟨.ref W, rfl, W, _, 0, .ref R, rfl, rfl, SqT.of (g9.tups _ _ hw), at_nat (j := 0) rfl, ?_⟩
      obtain ⟨ys, hys, hyl, hya⟩ := seq_at (K := K) (hR.mono g9.tups)
      have hB9 := up_other (o := .lst [V.int 0]) hB8 hp1
      refine ⟨R, ys, rfl, .inr hys, p1, (ys.length : Int), [V.int 0], rfl, rfl, upd_same, by omega, by omega, ?_, fun B2 hB2 => ?_⟩
      · show 1 * ((ys.length : Int)).toNat ≤ sizeLine
        exact small_of (by omega)
      rw [rep_flat, Int.toNat_natCast, hyl, rep_zero]
      have g10 := g9.new hB2 (o := .lst ((List.replicate rs.length (0 : Int)).map V.int))
      have hB10 := up_other (o := .lst ((List.replicate rs.length (0 : Int)).map V.int)) hB9 hB2
      refine ⟨z, W, B2, rs, k, List.replicate rs.length 0, _, rfl, g10.dk, by omega, hW.mono g10.tups, upd_same, List.length_replicate, fun H11 p row x go11 hp10 hp11 hch hlt hl20 => ?_⟩
      have g11 := g10.trans go11
      have hB11 := go11.lst offB hB10
      have offp : Off z p := g10.dk.off hp10
      have hpB : p ≠ B := fun e => by
        rw [e, hB10] at hp10
        cases hp10
      -- how many
      refine ⟨.ref z.d, rfl, .ref z.d, rfl, 10, 11, rfl, rfl, ⟨by decide, by decide, by decide⟩, by show 2 ≤ sizeLine; decide, fun p2 hp2 => ?_⟩
      have g12 := g11.new hp2 (o := .lst [V.int 2, .int (10 ^ 11)])
      have hB12 := up_other (o := .lst [V.int 2, .int (10 ^ 11)]) hB11 hp2
      have hp12 := up_other (o := .lst [V.int 2, .int (10 ^ 11)]) hp11 hp2
      refine ⟨z, p2, _, _, rfl, g12.dk, by omega, upd_same, g11.off hp2, by simp, by simp, fun H13 v hv go13 => ?_⟩
      obtain ⟨mm, hm1, hm64, rfl⟩ : ∃ mm : Int, 1 ≤ mm ∧ mm.natAbs < 2 ^ 64 ∧ v = .int mm := by
        rcases List.mem_cons.mp hv with e | hv
        · exact ⟨2, by decide, by decide, e⟩
        · rcases List.mem_cons.mp hv with e | hv
          · exact ⟨10 ^ 11, by decide, by decide, e⟩
          · cases hv
      refine ⟨z, mm, _, rfl, go13.dk, by omega, hm1, hm64, fun H14 r r0 r1 go14 => ⟨1, r, rfl, rfl, ?_⟩⟩
      have g14 := (g12.trans go13).trans go14
      have hB14 := go14.lst offB (go13.lst offB hB12)
      have hp14 := go14.lst offp (go13.lst offp hp12)
      -- along the row
      refine ⟨_, _, rfl, .ref p, rfl, p, rfl, ⟨_, SqL.of hp14⟩, for_list (K := K) (a := p) (xs := row.map nV) (fun l σ H' => ∃ (y8 : Option V), σ = [some (.ref a), some (.ref z.d), z2, some (.ref W), some (.ref B), some (.int (0 + j)), some (.ref p), some (.int (1 + r)), y8, y9, y10, y11] ∧ Go z H4 H' (m + 1 + 500 + 1 + 22 * j + 22) ∧
        H' B = some (.lst ((addAll bs (row.take l) (1 + r)).map V.int)) ∧ H' p = some (.lst (row.map nV))) ⟨z8, rfl, g14.mono (by omega), hB14, hp14⟩ (fun l σ H' _ h => by
        obtain ⟨_, _, _, _, h⟩ := h
        exact SqL.of h) (fun l v σ H15 hv hp => ?_) (fun σ H15 hp => ?_)⟩
      · obtain ⟨z8', rfl, g15, hB15, hp15⟩ := hp
        obtain ⟨kk, rfl, hkk⟩ : ∃ kk, v = nV kk ∧ row[l]? = some kk := by
          rw [List.getElem?_map] at hv
          cases e : row[l]? with
          | none =>
            rw [e] at hv
            cases hv
          | some kk =>
            rw [e] at hv
            exact ⟨kk, (Option.some.inj hv).symm, rfl⟩
        have hkl : kk < (addAll bs (row.take l) (1 + r)).length := by
          rw [addAll_length, hbl]
          exact hlt kk (List.mem_of_getElem? hkk)
        refine ⟨.ref B, rfl, nV kk, rfl, B, _, (kk : Int), .int ((addAll bs (row.take l) (1 + r)).getD kk 0), rfl, rfl, SqL.of hB15, at_nat (map_int_at hkl), .int (1 + r), rfl, _, 1 + r, rfl, rfl, .ref B, rfl, nV kk, rfl, B, _, (kk : Int), kk, rfl, rfl, hB15, ixN_nat (by rw [List.length_map]; exact hkl), ?_⟩
        refine ⟨_, rfl, g15.put hB4, ?_, ?_⟩
        · rw [upd_same, map_set_int, addAll_take hkk]
        · rw [upd_ne hpB]
          exact hp15
      · obtain ⟨z8', rfl, g15, hB15, hp15⟩ := hp
        rw [List.length_map, List.take_length] at hB15
        refine ⟨z2, _, _, _, z8', addAll bs row (1 + r), rfl, g15.mono (by omega), hB15, by rw [addAll_length]; exact hbl, fun j' hj' => ?_, hbal.closed (1 + r) hch hlt hbl⟩
        rw [addAll_getD _ _ _ _ fun i hi => by rw [hbl]; exact hlt i hi]
        have e1 := hnn j' hj'
        have e2 : 0 ≤ (1 + r) * ((row.count j' : Nat) : Int) := Int.mul_nonneg (by omega) (Int.natCast_nonneg _)
        omega
    · obtain ⟨z2, z5, z6, z7, z8, bs, rfl, g8, hB8, hbl, hnn, hbal⟩ := hp
      have g8 := g8.mono (m' := m + 1 + 500 + 1 + 132) (by omega)
      -- together
      refine ⟨.ref B, rfl, B, _, rfl, .inl ⟨SqL.of hB8, fun t ht => ?_⟩⟩
      have g9 := g8.new ht (o := .tup (bs.map V.int))
      have ht9 : upd H8 t (.tup (bs.map V.int)) t = some (.tup (bs.map V.int)) := upd_same
      generalize upd H8 t (.tup (bs.map V.int)) = H9 at *
      have hW9 := hW.mono g9.tups
      have hR9 := hR.mono g9.tups
      have hw9 := g9.tups _ _ hw
      have dk9 := g9.dk
      -- over
      refine ⟨.ref t, rfl, t, _, rfl, .inr (SqT.of ht9), _, rfl, by rw [List.length_map]; omega, by rw [List.length_map]; omega, fun O hO => ?_⟩
      refine lc_range (fun i H' => Same H9 H' ∧ H' O = some (.lst ((overTo rs bs i).map nV))) ⟨(Same.refl H9).new hO, upd_same⟩ (fun i H10 hi hp => ?_) (fun H10 hp => ?_)
      · obtain ⟨hs, hacc⟩ := hp
        rw [Int.zero_add]
        have hi' : i < rs.length := by
          rw [List.length_map, Int.toNat_natCast] at hi
          omega
        obtain ⟨d, r, ys, hr_, hys, hyd, hd, eb, ee⟩ := (hR9.mono hs.tups).get (K := K) hi'
        refine ⟨rfl, .ref t, rfl, nV i, rfl, t, _, (i : Int), .int (bs.getD i 0), rfl, rfl, SqT.of (hs _ _ ht9), at_nat (map_int_at (by omega)), .ref W, rfl, W, _, 0, .ref R, rfl, rfl, SqT.of (hs _ _ hw9), at_nat (j := 0) rfl, nV i, rfl, R, ys, _, .ref d, rfl, rfl, hys, hyd, d, _, 2, .int r.r, rfl, rfl, SqT.of hd, at_nat (j := 2) rfl, bs.getD i 0, r.r, rfl, rfl, _, rfl, ?_⟩
        rw [overTo_succ, Rm_at hr_]
        by_cases c : r.r < bs.getD i 0
        · rw [decide_eq_true c, if_pos c]
          refine iteT ⟨nV i, rfl, _, hacc, ?_, hs.put hO, ?_⟩
          · rw [List.length_map]
            exact Nat.lt_of_le_of_lt (overTo_len rs bs i) (small_lt (by omega))
          · rw [upd_same, List.map_append]
            rfl
        · rw [decide_eq_false c, if_neg c]
          exact iteF ⟨hs, hacc⟩
      obtain ⟨s10, hO10⟩ := hp
      rw [Int.toNat_natCast, List.length_map, hbl] at hO10
      refine ⟨.ref O, rfl, Nat.zero_le _, fun p5 hp5 => ?_⟩
      have s11 := s10.new hp5 (o := .lst [])
      have hO11 := up_other (o := .lst []) hO10 hp5
      refine ⟨_, _, .lst (SqL.of hO11) (dp_n _), .lst (SqL.of upd_same) .nil, shaped_nL _, rfl, _, rfl, ?_⟩
      rw [eqv_nil]
      generalize upd H10 p5 (.lst []) = H11 at *
      have hW11 := hW9.mono s11.tups
      have ht11 := s11 _ _ ht9
      by_cases e : overTo rs bs rs.length = []
      · rw [decide_eq_true e]
        have small := overTo_nil e
        refine iteF ?_
        -- bundle
        refine ⟨.ref W, rfl, .ref t, rfl, W, t, rs, k, bs, rfl, hW11, ht11, hbl, hnn, hbal, fun H12 t2 as rows s12 ht2n ht2 hrows bun => ?_⟩
        have hW12 := hW11.mono s12.tups
        have ht12 := s12 _ _ ht11
        -- streamfault is None
        refine ⟨.ref W, rfl, .ref t, rfl, W, t, rs, k, bs, rfl, hW12, ht12, hbl, hnn, hbal, fun i hi p _ => ?_, fun _ H13 s13 => ?_⟩
        · exact absurd (small i hi) (by omega)
        refine ⟨rfl, _, rfl, ?_⟩
        rw [decide_eq_true (rfl : V.non = V.non)]
        have hW13 := hW12.mono s13.tups
        have ht13 := s13 _ _ ht12
        have ht2' := s13 _ _ ht2
        have hrows13 := hrows.mono s13.tups
        have hrl := bun.len
        refine iteF ⟨.ref W, rfl, .ref t, rfl, .ref t2, rfl, W, t, t2, rs, k, bs, as, rows, rfl, hW13, ht13, ht2', hrows13, bun.ways, by omega, fun _ _ => bun.nd, fun H14 s14 => ?_⟩
        rw [decide_eq_true bun.len, decide_eq_true bun.sum]
        refine ⟨true, true, rfl, rfl, _, rfl, iteF ?_⟩
        -- twice
        have hW14 := hW13.mono s14.tups
        have ht14 := s14 _ _ ht13
        have ht24 := s14 _ _ ht2'
        have hrows14 := hrows13.mono s14.tups
        have dk14 := (((dk9.same s11).same s12).same s13).same s14
        refine ⟨.ref t2, rfl, Nat.zero_le _, fun p6 hp6 => ?_⟩
        have s15 := (Same.refl H14).new hp6 (o := .tup [])
        have hrows15 := hrows14.mono s15.tups
        have ht25 := s15 _ _ ht24
        have ht15 := s15 _ _ ht14
        have hW15 := hW14.mono s15.tups
        have dk15 := dk14.same s15
        refine ⟨_, _, .tup (SqT.of ht25) (dp_rows hrows15), .tup (SqT.of upd_same) .nil, shaped_rows rows, rfl, _, rfl, ?_⟩
        generalize upd H14 p6 (.tup []) = H15 at *
        by_cases er : rows = []
        · subst er
          exact iteF (iteF ⟨_, _, _, _, _, _, _, _, _, _, rfl, nxt dk15 (by omega)⟩)
        · have eq : PyData.eqv (.tuple (rows.map rowD)) (.tuple []) = false := by
            cases rows with
            | nil => exact absurd rfl er
            | cons p r => rfl
          rw [eq]
          have ane : as ≠ [] := fun z => er (List.length_eq_zero_iff.mp (by rw [← hrows15.1, z]; rfl))
          have hne : as.map V.ref ≠ [] := fun z => ane (List.map_eq_nil_iff.mp z)
          refine iteT ⟨.ref W, rfl, .ref t, rfl, .ref t2, rfl, .ref t2, rfl, t2, t2, _, _, rfl, rfl, SqT.of ht25, SqT.of ht25, hne, ?_, fun z => absurd z hne, fun _ p7 hp7 => ?_⟩
          · rw [List.length_map, hrows15.1]
            exact small_of (by omega)
          have s16 := (Same.refl H15).new hp7 (o := .tup (as.map V.ref ++ as.map V.ref))
          have hrows16 := hrows15.mono s16.tups
          refine ⟨W, t, p7, rs, k, bs, as ++ as, rows ++ rows, rfl, hW15.mono s16.tups, s16 _ _ ht15, by rw [upd_same, List.map_append], hrows16.app hrows16, fun p hp => ?_, ?_, fun _ z => absurd z (bun.twice er), fun H17 s17 => ?_⟩
          · rcases List.mem_append.mp hp with hp | hp
            · exact bun.ways p hp
            · exact bun.ways p hp
          · rw [List.length_append]
            omega
          · rw [decide_eq_false (bun.twice er), Bool.and_false]
            exact ⟨false, false, rfl, rfl, _, rfl, iteF ⟨_, _, _, _, _, _, _, _, _, _, rfl, nxt ((dk15.same s16).same s17) (by omega)⟩⟩
      · rw [decide_eq_false e]
        obtain ⟨i0, rest, e0⟩ : ∃ i0 rest, overTo rs bs rs.length = i0 :: rest := by
          cases h : overTo rs bs rs.length with
          | nil => exact absurd h e
          | cons i0 rest => exact ⟨i0, rest, rfl⟩
        refine iteT ⟨.ref W, rfl, .ref t, rfl, W, t, rs, k, bs, rfl, hW11, ht11, hbl, hnn, hbal, fun i hi p first H12 p12 s12 hp12n hp12 => ?_, fun small => ?_⟩
        · have ei : i = i0 := overTo_first e0 hi p first
          have hO12 := s12 _ _ hO11
          rw [e0, ← ei] at hO12
          refine ⟨.ref O, rfl, O, _, 0, nV i, rfl, rfl, SqL.of hO12, at_nat (j := 0) rfl, by show 2 ≤ sizeLine; decide, fun p13 hp13 => ?_⟩
          refine ⟨p12, p13, "room", (i : Int), rfl, up_other hp12 hp13, upd_same, fun H14 s14 => ?_⟩
          have dk := ((((dk9.same s11).same s12)).same ((Same.refl H12).new hp13)).same s14
          exact ⟨true, rfl, iteF ⟨_, _, _, _, _, _, _, _, _, _, rfl, nxt dk (by omega)⟩⟩
        · exfalso
          have hm : i0 ∈ overTo rs bs rs.length := by
            rw [e0]
            exact List.mem_cons_self
          have hm := List.mem_filter.mp hm
          have h1 := small i0 (List.mem_range.mp hm.1)
          have h2 := of_decide_eq_true hm.2
          omega
end
end U12

set_option Elab.async false
set_option linter.all false
set_option maxRecDepth 100000
set_option maxHeartbeats 4000000
namespace U12
open PySem PySem.Spec PyProof.Rows L2
/-! ### the promises joined -/
theorem joined {P : Program} {w : World} {K : PySem.W.Frag} {mg : Str → Option Value} {base : Heap} {f1 f2 f3 f4 f5 f6 f7 f8 f9 f10 f11 f12 f13 f14 f15 f16 f17 f18 f19 f20 f21 f22 f23 f24 : Addr} {fd1 fd2 fd3 fd4 fd5 fd6 fd7 fd8 fd9 fd10 fd11 fd12 fd13 fd14 fd15 fd16 fd17 fd18 fd19 fd20 fd21 fd22 fd23 fd24 : FuncData} (T : Tx mg)
    (D_is_number : Df K mg "is_number" s_is_number P_is_number f1 fd1)
    (D_is_row : Df K mg "is_row" s_is_row P_is_row f2 fd2)
    (D_is_amount : Df K mg "is_amount" s_is_amount P_is_amount f3 fd3)
    (D_houses_of : Df K mg "houses_of" s_houses_of P_houses_of f4 fd4)
    (D_next_roads : Df K mg "next_roads" s_next_roads P_next_roads f5 fd5)
    (D_turned_round : Df K mg "turned_round" s_turned_round P_turned_round f6 fd6)
    (D_is_chain : Df K mg "is_chain" s_is_chain P_is_chain f7 fd7)
    (D_is_way : Df K mg "is_way" s_is_way P_is_way f8 fd8)
    (D_is_bundle_row : Df K mg "is_bundle_row" s_is_bundle_row P_is_bundle_row f9 fd9)
    (D_bundle_holds : Df K mg "bundle_holds" s_bundle_holds P_bundle_holds f10 fd10)
    (D_sums : Df K mg "sums" s_sums P_sums f11 fd11)
    (D_streamfault : Df K mg "streamfault" s_streamfault P_streamfault f12 fd12)
    (D_led_on : Df K mg "led_on" s_led_on P_led_on f13 fd13)
    (D_bundle : Df K mg "bundle" s_bundle P_bundle f14 fd14)
    (D__law_deck : Df K mg "_law_deck" s__law_deck P__law_deck f15 fd15)
    (D__law_next : Df K mg "_law_next" s__law_next P__law_next f16 fd16)
    (D__law_one : Df K mg "_law_one" s__law_one P__law_one f17 fd17)
    (D__law_room : Df K mg "_law_room" s__law_room P__law_room f18 fd18)
    (D__law_order : Df K mg "_law_order" s__law_order P__law_order f19 fd19)
    (D__law_road : Df K mg "_law_road" s__law_road P__law_road f20 fd20)
    (D__law_web : Df K mg "_law_web" s__law_web P__law_web f21 fd21)
    (D__law_round : Df K mg "_law_round" s__law_round P__law_round f22 fd22)
    (D__law_same : Df K mg "_law_same" s__law_same P__law_same f23 fd23)
    (D_law : Df K mg "law" s_law P_law f24 fd24)
    : FnOk P w K mg base CX0 6 f24 fd24 P_law (sp_law K) := by
  have G_is_number : FnOk P w K mg base CX0 1 f1 fd1 P_is_number sp_is_number := ok_is_number D_is_number T
  have G_is_row : FnOk P w K mg base CX0 1 f2 fd2 P_is_row (sp_is_row K) := ok_is_row D_is_row T
  have G_is_amount : FnOk P w K mg base CX0 1 f3 fd3 P_is_amount sp_is_amount := ok_is_amount D_is_amount T
  have G_houses_of : FnOk P w K mg base CX0 1 f4 fd4 P_houses_of sp_houses_of := ok_houses_of D_houses_of T
  have G_next_roads : FnOk P w K mg base CX0 1 f5 fd5 P_next_roads (sp_next_roads K) := ok_next_roads D_next_roads T
  have G_turned_round : FnOk P w K mg base CX0 1 f6 fd6 P_turned_round (sp_turned_round K) := ok_turned_round D_turned_round T
  have G_is_chain : FnOk P w K mg base CX0 1 f7 fd7 P_is_chain (sp_is_chain K) := ok_is_chain D_is_chain T
  have G_is_way : FnOk P w K mg base CX0 2 f8 fd8 P_is_way (sp_is_way K) := ok_is_way D_is_way T D_is_row D_is_number D_is_chain
  have G_is_bundle_row : FnOk P w K mg base CX0 3 f9 fd9 P_is_bundle_row (sp_is_bundle_row K) := ok_is_bundle_row D_is_bundle_row T D_is_row D_is_way G_is_row G_is_way
  have G_bundle_holds : FnOk P w K mg base CX0 4 f10 fd10 P_bundle_holds (sp_bundle_holds K) := ok_bundle_holds D_bundle_holds T D_is_row D_is_bundle_row G_is_row G_is_bundle_row
  have G_sums : FnOk P w K mg base CX0 2 f11 fd11 P_sums (sp_sums K) := ok_sums D_sums T D_houses_of
  have G_streamfault : FnOk P w K mg base CX0 3 f12 fd12 P_streamfault (sp_streamfault K) := ok_streamfault D_streamfault T D_is_row D_is_number D_is_amount D_sums G_is_row G_is_number G_is_amount G_sums
  have G_led_on : FnOk P w K mg base CX0 2 f13 fd13 P_led_on (sp_led_on K) := ok_led_on D_led_on T D_next_roads
  have G_bundle : FnOk P w K mg base CX0 3 f14 fd14 P_bundle (sp_bundle K) := ok_bundle D_bundle T D_led_on D_turned_round G_led_on
  have G__law_deck : FnOk P w K mg base CX0 1 f15 fd15 P__law_deck (sp_deck K) := ok_deck D__law_deck T
  have G__law_next : FnOk P w K mg base CX0 1 f16 fd16 P__law_next (sp_next K) := ok_next D__law_next T
  have G__law_one : FnOk P w K mg base CX0 2 f17 fd17 P__law_one (sp_one K) := ok_one D__law_one T D__law_next G__law_next
  have G__law_room : FnOk P w K mg base CX0 3 f18 fd18 P__law_room (sp_room K) := ok_room D__law_room T D__law_next G__law_next D__law_one G__law_one
  have G__law_order : FnOk P w K mg base CX0 2 f19 fd19 P__law_order (sp_order K) := ok_order D__law_order T D__law_next G__law_next
  have G__law_road : FnOk P w K mg base CX0 4 f20 fd20 P__law_road (sp_road K) := ok_road D__law_road T D__law_next G__law_next D__law_room G__law_room
  have G__law_web : FnOk P w K mg base CX0 5 f21 fd21 P__law_web (sp_web K) := ok_web D__law_web T D__law_next G__law_next D__law_road G__law_road D__law_order G__law_order
  have G__law_round : FnOk P w K mg base CX0 3 f22 fd22 P__law_round (sp_round K) := ok_round D__law_round T D__law_next G__law_next D__law_one G__law_one
  have G__law_same : FnOk P w K mg base CX0 2 f23 fd23 P__law_same (sp_same K) := ok_same D__law_same T
  exact ok_law D_law T D__law_deck G__law_deck D__law_next G__law_next D__law_one G__law_one D__law_web G__law_web D__law_round G__law_round D__law_same G__law_same D_streamfault G_streamfault D_bundle G_bundle D_bundle_holds G_bundle_holds
/-! ### what the top has written -/
theorem all_mk {l : PySem.W.OpenLaw} {w : World} {K : PySem.W.Frag} {h : Heap} {mg : Str → Option Value} {fa f1 f2 f3 f4 f5 f6 f7 f8 f9 f10 f11 f12 f13 f14 f15 f16 f17 f18 f19 f20 f21 f22 f23 f24 : Addr} (X : K.In h) (G : h.Ns mainGlobals mg) (hfa : mg "law" = some (.ref fa))
    {od1 an1 od2 an2 od3 an3 od4 an4 od5 an5 od6 an6 od7 an7 od8 an8 od9 an9 od10 an10 od11 an11 od12 an12 od13 an13 od14 an14 od15 an15 od16 an16 od17 an17 od18 an18 od19 an19 od20 an20 od21 an21 od22 an22 od23 an23 od24 an24 : Option Addr} {sl1 sl2 sl3 sl4 sl5 sl6 sl7 sl8 sl9 sl10 sl11 sl12 sl13 sl14 sl15 sl16 sl17 sl18 sl19 sl20 sl21 sl22 sl23 sl24 : Array (Option Value)} {oc1 kV1 dc1 pm1 cd1 ct1 oc2 kV2 dc2 pm2 cd2 ct2 oc3 kV3 dc3 pm3 cd3 ct3 oc4 kV4 dc4 pm4 cd4 ct4 oc5 kV5 dc5 pm5 cd5 ct5 oc6 kV6 dc6 pm6 cd6 ct6 oc7 kV7 dc7 pm7 cd7 ct7 oc8 kV8 dc8 pm8 cd8 ct8 oc9 kV9 dc9 pm9 cd9 ct9 oc10 kV10 dc10 pm10 cd10 ct10 oc11 kV11 dc11 pm11 cd11 ct11 oc12 kV12 dc12 pm12 cd12 ct12 oc13 kV13 dc13 pm13 cd13 ct13 oc14 kV14 dc14 pm14 cd14 ct14 oc15 kV15 dc15 pm15 cd15 ct15 oc16 kV16 dc16 pm16 cd16 ct16 oc17 kV17 dc17 pm17 cd17 ct17 oc18 kV18 dc18 pm18 cd18 ct18 oc19 kV19 dc19 pm19 cd19 ct19 oc20 kV20 dc20 pm20 cd20 ct20 oc21 kV21 dc21 pm21 cd21 ct21 oc22 kV22 dc22 pm22 cd22 ct22 oc23 kV23 dc23 pm23 cd23 ct23 oc24 kV24 dc24 pm24 cd24 ct24 : Value}
    (a1 : PySem.W.nsIn K mainGlobals "is_number" = some (some (.ref f1))) (l1 : K.lookup f1 = some ⟨oc1, od1, .func (PySem.W.fnOf "is_number" "is_number" (defArgs s_is_number) (defBody s_is_number) (defScope s_is_number) .none kV1 dc1 pm1 an1 cd1 ct1), sl1⟩) (c1 : PySem.W.codeIn K cd1 "is_number" = true) (k1 : PySem.W.keepIn K (.ref f1) = true)
    (a2 : PySem.W.nsIn K mainGlobals "is_row" = some (some (.ref f2))) (l2 : K.lookup f2 = some ⟨oc2, od2, .func (PySem.W.fnOf "is_row" "is_row" (defArgs s_is_row) (defBody s_is_row) (defScope s_is_row) .none kV2 dc2 pm2 an2 cd2 ct2), sl2⟩) (c2 : PySem.W.codeIn K cd2 "is_row" = true) (k2 : PySem.W.keepIn K (.ref f2) = true)
    (a3 : PySem.W.nsIn K mainGlobals "is_amount" = some (some (.ref f3))) (l3 : K.lookup f3 = some ⟨oc3, od3, .func (PySem.W.fnOf "is_amount" "is_amount" (defArgs s_is_amount) (defBody s_is_amount) (defScope s_is_amount) .none kV3 dc3 pm3 an3 cd3 ct3), sl3⟩) (c3 : PySem.W.codeIn K cd3 "is_amount" = true) (k3 : PySem.W.keepIn K (.ref f3) = true)
    (a4 : PySem.W.nsIn K mainGlobals "houses_of" = some (some (.ref f4))) (l4 : K.lookup f4 = some ⟨oc4, od4, .func (PySem.W.fnOf "houses_of" "houses_of" (defArgs s_houses_of) (defBody s_houses_of) (defScope s_houses_of) .none kV4 dc4 pm4 an4 cd4 ct4), sl4⟩) (c4 : PySem.W.codeIn K cd4 "houses_of" = true) (k4 : PySem.W.keepIn K (.ref f4) = true)
    (a5 : PySem.W.nsIn K mainGlobals "next_roads" = some (some (.ref f5))) (l5 : K.lookup f5 = some ⟨oc5, od5, .func (PySem.W.fnOf "next_roads" "next_roads" (defArgs s_next_roads) (defBody s_next_roads) (defScope s_next_roads) .none kV5 dc5 pm5 an5 cd5 ct5), sl5⟩) (c5 : PySem.W.codeIn K cd5 "next_roads" = true) (k5 : PySem.W.keepIn K (.ref f5) = true)
    (a6 : PySem.W.nsIn K mainGlobals "turned_round" = some (some (.ref f6))) (l6 : K.lookup f6 = some ⟨oc6, od6, .func (PySem.W.fnOf "turned_round" "turned_round" (defArgs s_turned_round) (defBody s_turned_round) (defScope s_turned_round) .none kV6 dc6 pm6 an6 cd6 ct6), sl6⟩) (c6 : PySem.W.codeIn K cd6 "turned_round" = true) (k6 : PySem.W.keepIn K (.ref f6) = true)
    (a7 : PySem.W.nsIn K mainGlobals "is_chain" = some (some (.ref f7))) (l7 : K.lookup f7 = some ⟨oc7, od7, .func (PySem.W.fnOf "is_chain" "is_chain" (defArgs s_is_chain) (defBody s_is_chain) (defScope s_is_chain) .none kV7 dc7 pm7 an7 cd7 ct7), sl7⟩) (c7 : PySem.W.codeIn K cd7 "is_chain" = true) (k7 : PySem.W.keepIn K (.ref f7) = true)
    (a8 : PySem.W.nsIn K mainGlobals "is_way" = some (some (.ref f8))) (l8 : K.lookup f8 = some ⟨oc8, od8, .func (PySem.W.fnOf "is_way" "is_way" (defArgs s_is_way) (defBody s_is_way) (defScope s_is_way) .none kV8 dc8 pm8 an8 cd8 ct8), sl8⟩) (c8 : PySem.W.codeIn K cd8 "is_way" = true) (k8 : PySem.W.keepIn K (.ref f8) = true)
    (a9 : PySem.W.nsIn K mainGlobals "is_bundle_row" = some (some (.ref f9))) (l9 : K.lookup f9 = some ⟨oc9, od9, .func (PySem.W.fnOf "is_bundle_row" "is_bundle_row" (defArgs s_is_bundle_row) (defBody s_is_bundle_row) (defScope s_is_bundle_row) .none kV9 dc9 pm9 an9 cd9 ct9), sl9⟩) (c9 : PySem.W.codeIn K cd9 "is_bundle_row" = true) (k9 : PySem.W.keepIn K (.ref f9) = true)
    (a10 : PySem.W.nsIn K mainGlobals "bundle_holds" = some (some (.ref f10))) (l10 : K.lookup f10 = some ⟨oc10, od10, .func (PySem.W.fnOf "bundle_holds" "bundle_holds" (defArgs s_bundle_holds) (defBody s_bundle_holds) (defScope s_bundle_holds) .none kV10 dc10 pm10 an10 cd10 ct10), sl10⟩) (c10 : PySem.W.codeIn K cd10 "bundle_holds" = true) (k10 : PySem.W.keepIn K (.ref f10) = true)
    (a11 : PySem.W.nsIn K mainGlobals "sums" = some (some (.ref f11))) (l11 : K.lookup f11 = some ⟨oc11, od11, .func (PySem.W.fnOf "sums" "sums" (defArgs s_sums) (defBody s_sums) (defScope s_sums) .none kV11 dc11 pm11 an11 cd11 ct11), sl11⟩) (c11 : PySem.W.codeIn K cd11 "sums" = true) (k11 : PySem.W.keepIn K (.ref f11) = true)
    (a12 : PySem.W.nsIn K mainGlobals "streamfault" = some (some (.ref f12))) (l12 : K.lookup f12 = some ⟨oc12, od12, .func (PySem.W.fnOf "streamfault" "streamfault" (defArgs s_streamfault) (defBody s_streamfault) (defScope s_streamfault) .none kV12 dc12 pm12 an12 cd12 ct12), sl12⟩) (c12 : PySem.W.codeIn K cd12 "streamfault" = true) (k12 : PySem.W.keepIn K (.ref f12) = true)
    (a13 : PySem.W.nsIn K mainGlobals "led_on" = some (some (.ref f13))) (l13 : K.lookup f13 = some ⟨oc13, od13, .func (PySem.W.fnOf "led_on" "led_on" (defArgs s_led_on) (defBody s_led_on) (defScope s_led_on) .none kV13 dc13 pm13 an13 cd13 ct13), sl13⟩) (c13 : PySem.W.codeIn K cd13 "led_on" = true) (k13 : PySem.W.keepIn K (.ref f13) = true)
    (a14 : PySem.W.nsIn K mainGlobals "bundle" = some (some (.ref f14))) (l14 : K.lookup f14 = some ⟨oc14, od14, .func (PySem.W.fnOf "bundle" "bundle" (defArgs s_bundle) (defBody s_bundle) (defScope s_bundle) .none kV14 dc14 pm14 an14 cd14 ct14), sl14⟩) (c14 : PySem.W.codeIn K cd14 "bundle" = true) (k14 : PySem.W.keepIn K (.ref f14) = true)
    (a15 : PySem.W.nsIn K mainGlobals "_law_deck" = some (some (.ref f15))) (l15 : K.lookup f15 = some ⟨oc15, od15, .func (PySem.W.fnOf "_law_deck" "_law_deck" (defArgs s__law_deck) (defBody s__law_deck) (defScope s__law_deck) .none kV15 dc15 pm15 an15 cd15 ct15), sl15⟩) (c15 : PySem.W.codeIn K cd15 "_law_deck" = true) (k15 : PySem.W.keepIn K (.ref f15) = true)
    (a16 : PySem.W.nsIn K mainGlobals "_law_next" = some (some (.ref f16))) (l16 : K.lookup f16 = some ⟨oc16, od16, .func (PySem.W.fnOf "_law_next" "_law_next" (defArgs s__law_next) (defBody s__law_next) (defScope s__law_next) .none kV16 dc16 pm16 an16 cd16 ct16), sl16⟩) (c16 : PySem.W.codeIn K cd16 "_law_next" = true) (k16 : PySem.W.keepIn K (.ref f16) = true)
    (a17 : PySem.W.nsIn K mainGlobals "_law_one" = some (some (.ref f17))) (l17 : K.lookup f17 = some ⟨oc17, od17, .func (PySem.W.fnOf "_law_one" "_law_one" (defArgs s__law_one) (defBody s__law_one) (defScope s__law_one) .none kV17 dc17 pm17 an17 cd17 ct17), sl17⟩) (c17 : PySem.W.codeIn K cd17 "_law_one" = true) (k17 : PySem.W.keepIn K (.ref f17) = true)
    (a18 : PySem.W.nsIn K mainGlobals "_law_room" = some (some (.ref f18))) (l18 : K.lookup f18 = some ⟨oc18, od18, .func (PySem.W.fnOf "_law_room" "_law_room" (defArgs s__law_room) (defBody s__law_room) (defScope s__law_room) .none kV18 dc18 pm18 an18 cd18 ct18), sl18⟩) (c18 : PySem.W.codeIn K cd18 "_law_room" = true) (k18 : PySem.W.keepIn K (.ref f18) = true)
    (a19 : PySem.W.nsIn K mainGlobals "_law_order" = some (some (.ref f19))) (l19 : K.lookup f19 = some ⟨oc19, od19, .func (PySem.W.fnOf "_law_order" "_law_order" (defArgs s__law_order) (defBody s__law_order) (defScope s__law_order) .none kV19 dc19 pm19 an19 cd19 ct19), sl19⟩) (c19 : PySem.W.codeIn K cd19 "_law_order" = true) (k19 : PySem.W.keepIn K (.ref f19) = true)
    (a20 : PySem.W.nsIn K mainGlobals "_law_road" = some (some (.ref f20))) (l20 : K.lookup f20 = some ⟨oc20, od20, .func (PySem.W.fnOf "_law_road" "_law_road" (defArgs s__law_road) (defBody s__law_road) (defScope s__law_road) .none kV20 dc20 pm20 an20 cd20 ct20), sl20⟩) (c20 : PySem.W.codeIn K cd20 "_law_road" = true) (k20 : PySem.W.keepIn K (.ref f20) = true)
    (a21 : PySem.W.nsIn K mainGlobals "_law_web" = some (some (.ref f21))) (l21 : K.lookup f21 = some ⟨oc21, od21, .func (PySem.W.fnOf "_law_web" "_law_web" (defArgs s__law_web) (defBody s__law_web) (defScope s__law_web) .none kV21 dc21 pm21 an21 cd21 ct21), sl21⟩) (c21 : PySem.W.codeIn K cd21 "_law_web" = true) (k21 : PySem.W.keepIn K (.ref f21) = true)
    (a22 : PySem.W.nsIn K mainGlobals "_law_round" = some (some (.ref f22))) (l22 : K.lookup f22 = some ⟨oc22, od22, .func (PySem.W.fnOf "_law_round" "_law_round" (defArgs s__law_round) (defBody s__law_round) (defScope s__law_round) .none kV22 dc22 pm22 an22 cd22 ct22), sl22⟩) (c22 : PySem.W.codeIn K cd22 "_law_round" = true) (k22 : PySem.W.keepIn K (.ref f22) = true)
    (a23 : PySem.W.nsIn K mainGlobals "_law_same" = some (some (.ref f23))) (l23 : K.lookup f23 = some ⟨oc23, od23, .func (PySem.W.fnOf "_law_same" "_law_same" (defArgs s__law_same) (defBody s__law_same) (defScope s__law_same) .none kV23 dc23 pm23 an23 cd23 ct23), sl23⟩) (c23 : PySem.W.codeIn K cd23 "_law_same" = true) (k23 : PySem.W.keepIn K (.ref f23) = true)
    (a24 : PySem.W.nsIn K mainGlobals "law" = some (some (.ref f24))) (l24 : K.lookup f24 = some ⟨oc24, od24, .func (PySem.W.fnOf "law" "law" (defArgs s_law) (defBody s_law) (defScope s_law) .none kV24 dc24 pm24 an24 cd24 ct24), sl24⟩) (c24 : PySem.W.codeIn K cd24 "law" = true) (k24 : PySem.W.keepIn K (.ref f24) = true)
    (z_len : PySem.W.nsIn K mainGlobals "len" = some none)
    (z_isinstance : PySem.W.nsIn K mainGlobals "isinstance" = some none)
    (z_int : PySem.W.nsIn K mainGlobals "int" = some none)
    (z_bool : PySem.W.nsIn K mainGlobals "bool" = some none)
    (z_str : PySem.W.nsIn K mainGlobals "str" = some none)
    (z_tuple : PySem.W.nsIn K mainGlobals "tuple" = some none)
    (z_list : PySem.W.nsIn K mainGlobals "list" = some none)
    (z_set : PySem.W.nsIn K mainGlobals "set" = some none)
    (z_enumerate : PySem.W.nsIn K mainGlobals "enumerate" = some none)
    (z_zip : PySem.W.nsIn K mainGlobals "zip" = some none)
    (z_range : PySem.W.nsIn K mainGlobals "range" = some none)
    (z_min : PySem.W.nsIn K mainGlobals "min" = some none)
    (z_all : PySem.W.nsIn K mainGlobals "all" = some none)
    (z_abs : PySem.W.nsIn K mainGlobals "abs" = some none)
    : ∃ fd : FuncData, (∀ (s : Shared) (v : Value), BindsTo s fd ⟨[v], []⟩ [("_law_script", v)]) ∧ ∀ base : Heap, K.In base → base.Ns mainGlobals mg → FnOk l.prog w K mg base CX0 6 fa fd P_law (sp_law K) := by
  have e := hfa.symm.trans (PySem.W.mg_of X G a24)
  cases e
  have T : Tx mg := ⟨PySem.W.mg_none_of X G z_len, PySem.W.mg_none_of X G z_isinstance, PySem.W.mg_none_of X G z_int, PySem.W.mg_none_of X G z_bool, PySem.W.mg_none_of X G z_str, PySem.W.mg_none_of X G z_tuple, PySem.W.mg_none_of X G z_list, PySem.W.mg_none_of X G z_set, PySem.W.mg_none_of X G z_enumerate, PySem.W.mg_none_of X G z_zip, PySem.W.mg_none_of X G z_range, PySem.W.mg_none_of X G z_min, PySem.W.mg_none_of X G z_all, PySem.W.mg_none_of X G z_abs⟩
  have F1 := fun_mk (st := s_is_number) l1 c1 k1
  have b1 := F1.binds (ps := P_is_number) fun _ _ _ _ _ _ us hl => match us, hl with | [_, _, _], _ => rfl
  have F2 := fun_mk (st := s_is_row) l2 c2 k2
  have b2 := F2.binds (ps := P_is_row) fun _ _ _ _ _ _ us hl => match us, hl with | [_, _, _], _ => rfl
  have F3 := fun_mk (st := s_is_amount) l3 c3 k3
  have b3 := F3.binds (ps := P_is_amount) fun _ _ _ _ _ _ us hl => match us, hl with | [_], _ => rfl
  have F4 := fun_mk (st := s_houses_of) l4 c4 k4
  have b4 := F4.binds (ps := P_houses_of) fun _ _ _ _ _ _ us hl => match us, hl with | [_], _ => rfl
  have F5 := fun_mk (st := s_next_roads) l5 c5 k5
  have b5 := F5.binds (ps := P_next_roads) fun _ _ _ _ _ _ us hl => match us, hl with | [_, _, _], _ => rfl
  have F6 := fun_mk (st := s_turned_round) l6 c6 k6
  have b6 := F6.binds (ps := P_turned_round) fun _ _ _ _ _ _ us hl => match us, hl with | [_], _ => rfl
  have F7 := fun_mk (st := s_is_chain) l7 c7 k7
  have b7 := F7.binds (ps := P_is_chain) fun _ _ _ _ _ _ us hl => match us, hl with | [_, _], _ => rfl
  have F8 := fun_mk (st := s_is_way) l8 c8 k8
  have b8 := F8.binds (ps := P_is_way) fun _ _ _ _ _ _ us hl => match us, hl with | [_, _], _ => rfl
  have F9 := fun_mk (st := s_is_bundle_row) l9 c9 k9
  have b9 := F9.binds (ps := P_is_bundle_row) fun _ _ _ _ _ _ us hl => match us, hl with | [_, _], _ => rfl
  have F10 := fun_mk (st := s_bundle_holds) l10 c10 k10
  have b10 := F10.binds (ps := P_bundle_holds) fun _ _ _ _ _ _ us hl => match us, hl with | [_, _, _], _ => rfl
  have F11 := fun_mk (st := s_sums) l11 c11 k11
  have b11 := F11.binds (ps := P_sums) fun _ _ _ _ _ _ us hl => match us, hl with | [_, _, _], _ => rfl
  have F12 := fun_mk (st := s_streamfault) l12 c12 k12
  have b12 := F12.binds (ps := P_streamfault) fun _ _ _ _ _ _ us hl => match us, hl with | [_, _], _ => rfl
  have F13 := fun_mk (st := s_led_on) l13 c13 k13
  have b13 := F13.binds (ps := P_led_on) fun _ _ _ _ _ _ us hl => match us, hl with | [_, _, _], _ => rfl
  have F14 := fun_mk (st := s_bundle) l14 c14 k14
  have b14 := F14.binds (ps := P_bundle) fun _ _ _ _ _ _ us hl => match us, hl with | [_, _], _ => rfl
  have F15 := fun_mk (st := s__law_deck) l15 c15 k15
  have b15 := F15.binds (ps := P__law_deck) fun _ _ _ _ _ _ us hl => match us, hl with | [_], _ => rfl
  have F16 := fun_mk (st := s__law_next) l16 c16 k16
  have b16 := F16.binds (ps := P__law_next) fun _ _ _ _ _ _ us hl => match us, hl with | [_, _], _ => rfl
  have F17 := fun_mk (st := s__law_one) l17 c17 k17
  have b17 := F17.binds (ps := P__law_one) fun _ _ _ _ _ _ us hl => match us, hl with | [_, _], _ => rfl
  have F18 := fun_mk (st := s__law_room) l18 c18 k18
  have b18 := F18.binds (ps := P__law_room) fun _ _ _ _ _ _ us hl => match us, hl with | [_, _], _ => rfl
  have F19 := fun_mk (st := s__law_order) l19 c19 k19
  have b19 := F19.binds (ps := P__law_order) fun _ _ _ _ _ _ us hl => match us, hl with | [_, _], _ => rfl
  have F20 := fun_mk (st := s__law_road) l20 c20 k20
  have b20 := F20.binds (ps := P__law_road) fun _ _ _ _ _ _ us hl => match us, hl with | [_, _, _], _ => rfl
  have F21 := fun_mk (st := s__law_web) l21 c21 k21
  have b21 := F21.binds (ps := P__law_web) fun _ _ _ _ _ _ us hl => match us, hl with | [_, _, _, _], _ => rfl
  have F22 := fun_mk (st := s__law_round) l22 c22 k22
  have b22 := F22.binds (ps := P__law_round) fun _ _ _ _ _ _ us hl => match us, hl with | [_, _, _], _ => rfl
  have F23 := fun_mk (st := s__law_same) l23 c23 k23
  have b23 := F23.binds (ps := P__law_same) fun _ _ _ _ _ _ us hl => match us, hl with | [_, _], _ => rfl
  have F24 := fun_mk (st := s_law) l24 c24 k24
  have b24 := F24.binds (ps := P_law) fun _ _ _ _ _ _ us hl => match us, hl with | [_], _ => rfl
  exact ⟨PySem.W.fnOf "law" "law" (defArgs s_law) (defBody s_law) (defScope s_law) .none kV24 dc24 pm24 an24 cd24 ct24, fun s v => .of_eq rfl, fun base _ _ =>
    joined T ⟨F1, b1, PySem.W.mg_of X G a1⟩ ⟨F2, b2, PySem.W.mg_of X G a2⟩ ⟨F3, b3, PySem.W.mg_of X G a3⟩ ⟨F4, b4, PySem.W.mg_of X G a4⟩ ⟨F5, b5, PySem.W.mg_of X G a5⟩ ⟨F6, b6, PySem.W.mg_of X G a6⟩ ⟨F7, b7, PySem.W.mg_of X G a7⟩ ⟨F8, b8, PySem.W.mg_of X G a8⟩ ⟨F9, b9, PySem.W.mg_of X G a9⟩ ⟨F10, b10, PySem.W.mg_of X G a10⟩ ⟨F11, b11, PySem.W.mg_of X G a11⟩ ⟨F12, b12, PySem.W.mg_of X G a12⟩ ⟨F13, b13, PySem.W.mg_of X G a13⟩ ⟨F14, b14, PySem.W.mg_of X G a14⟩ ⟨F15, b15, PySem.W.mg_of X G a15⟩ ⟨F16, b16, PySem.W.mg_of X G a16⟩ ⟨F17, b17, PySem.W.mg_of X G a17⟩ ⟨F18, b18, PySem.W.mg_of X G a18⟩ ⟨F19, b19, PySem.W.mg_of X G a19⟩ ⟨F20, b20, PySem.W.mg_of X G a20⟩ ⟨F21, b21, PySem.W.mg_of X G a21⟩ ⟨F22, b22, PySem.W.mg_of X G a22⟩ ⟨F23, b23, PySem.W.mg_of X G a23⟩ ⟨F24, b24, PySem.W.mg_of X G a24⟩⟩
theorem walk {l : PySem.W.OpenLaw} {q : Program} {loose : List Str} {XP : (Str → Option Value) → Heap → Prop} {YP : World → Heap → Prop} {d : DefRec} {K : Params → PySem.W.Frag} (hn : l.most = some 63) (hdf : d.params.defaults = [])
    (hY : ∀ (w : World) (h : Heap), YP w h → (K w.params).In h)
    (F : ∀ (w : World) (mg : Str → Option Value) (fa : Addr) (h : Heap), (K w.params).In h → h.Ns mainGlobals mg → mg d.name = some (.ref fa) →
      ∃ fd : FuncData, (∀ (s : Shared) (u : Value), BindsTo s fd ⟨[u], []⟩ [("_law_script", u)]) ∧ ∀ base : Heap, (K w.params).In base → base.Ns mainGlobals mg → FnOk l.prog w (K w.params) mg base CX0 6 fa fd ["_law_script"] (sp_law (K w.params))) :
    PySem.W.WalkO q loose XP YP l.row.toRowW d [] (fun f vs => PySem.call f vs) :=
  L2.walk_of (n := 63) (k := 6) (x := "_law_script") (CX := fun _ => CX0) (sp := fun w => sp_law (K w.params)) hn (by decide) hdf ⟨rfl, by decide, by decide⟩ hY F (fun _ _ a ns hl _ hS => ⟨a, ns, rfl, hS, hl, fun _ => rfl⟩) fun _ _ _ _ _ z => z
end U12
open PySem PySem.W PyProof.Rows in
set_option maxRecDepth 100000 in
set_option maxHeartbeats 0 in
theorem PySem.Challenge.cw_unturned_k12_whole_ways_laid_together_holds : PySem.Challenge.rw_unturned_k12_whole_ways_laid_together.Holds := by
  w_on; o_law; k_head; (case hw => w_witness2)
  k_fill
  refine U12.walk (l := PySem.Challenge.rw_unturned_k12_whole_ways_laid_together) rfl rfl (fun w h Y => PySem.W.kIn_of Y) ?F
  case F =>
    intro w mg fa h KX G hmg
    refine' U12.all_mk KX G hmg ?a1 ?l1 ?c1 ?k1 ?a2 ?l2 ?c2 ?k2 ?a3 ?l3 ?c3 ?k3 ?a4 ?l4 ?c4 ?k4 ?a5 ?l5 ?c5 ?k5 ?a6 ?l6 ?c6 ?k6 ?a7 ?l7 ?c7 ?k7 ?a8 ?l8 ?c8 ?k8 ?a9 ?l9 ?c9 ?k9 ?a10 ?l10 ?c10 ?k10 ?a11 ?l11 ?c11 ?k11 ?a12 ?l12 ?c12 ?k12 ?a13 ?l13 ?c13 ?k13 ?a14 ?l14 ?c14 ?k14 ?a15 ?l15 ?c15 ?k15 ?a16 ?l16 ?c16 ?k16 ?a17 ?l17 ?c17 ?k17 ?a18 ?l18 ?c18 ?k18 ?a19 ?l19 ?c19 ?k19 ?a20 ?l20 ?c20 ?k20 ?a21 ?l21 ?c21 ?k21 ?a22 ?l22 ?c22 ?k22 ?a23 ?l23 ?c23 ?k23 ?a24 ?l24 ?c24 ?k24 ?z_len ?z_isinstance ?z_int ?z_bool ?z_str ?z_tuple ?z_list ?z_set ?z_enumerate ?z_zip ?z_range ?z_min ?z_all ?z_abs
    (case a1 => k_is)
    (case l1 => k_is)
    (case c1 => k_is)
    (case k1 => k_is)
    (case a2 => k_is)
    (case l2 => k_is)
    (case c2 => k_is)
    (case k2 => k_is)
    (case a3 => k_is)
    (case l3 => k_is)
    (case c3 => k_is)
    (case k3 => k_is)
    (case a4 => k_is)
    (case l4 => k_is)
    (case c4 => k_is)
    (case k4 => k_is)
    (case a5 => k_is)
    (case l5 => k_is)
    (case c5 => k_is)
    (case k5 => k_is)
    (case a6 => k_is)
    (case l6 => k_is)
    (case c6 => k_is)
    (case k6 => k_is)
    (case a7 => k_is)
    (case l7 => k_is)
    (case c7 => k_is)
    (case k7 => k_is)
    (case a8 => k_is)
    (case l8 => k_is)
    (case c8 => k_is)
    (case k8 => k_is)
    (case a9 => k_is)
    (case l9 => k_is)
    (case c9 => k_is)
    (case k9 => k_is)
    (case a10 => k_is)
    (case l10 => k_is)
    (case c10 => k_is)
    (case k10 => k_is)
    (case a11 => k_is)
    (case l11 => k_is)
    (case c11 => k_is)
    (case k11 => k_is)
    (case a12 => k_is)
    (case l12 => k_is)
    (case c12 => k_is)
    (case k12 => k_is)
    (case a13 => k_is)
    (case l13 => k_is)
    (case c13 => k_is)
    (case k13 => k_is)
    (case a14 => k_is)
    (case l14 => k_is)
    (case c14 => k_is)
    (case k14 => k_is)
    (case a15 => k_is)
    (case l15 => k_is)
    (case c15 => k_is)
    (case k15 => k_is)
    (case a16 => k_is)
    (case l16 => k_is)
    (case c16 => k_is)
    (case k16 => k_is)
    (case a17 => k_is)
    (case l17 => k_is)
    (case c17 => k_is)
    (case k17 => k_is)
    (case a18 => k_is)
    (case l18 => k_is)
    (case c18 => k_is)
    (case k18 => k_is)
    (case a19 => k_is)
    (case l19 => k_is)
    (case c19 => k_is)
    (case k19 => k_is)
    (case a20 => k_is)
    (case l20 => k_is)
    (case c20 => k_is)
    (case k20 => k_is)
    (case a21 => k_is)
    (case l21 => k_is)
    (case c21 => k_is)
    (case k21 => k_is)
    (case a22 => k_is)
    (case l22 => k_is)
    (case c22 => k_is)
    (case k22 => k_is)
    (case a23 => k_is)
    (case l23 => k_is)
    (case c23 => k_is)
    (case k23 => k_is)
    (case a24 => k_is)
    (case l24 => k_is)
    (case c24 => k_is)
    (case k24 => k_is)
    (case z_len => k_is)
    (case z_isinstance => k_is)
    (case z_int => k_is)
    (case z_bool => k_is)
    (case z_str => k_is)
    (case z_tuple => k_is)
    (case z_list => k_is)
    (case z_set => k_is)
    (case z_enumerate => k_is)
    (case z_zip => k_is)
    (case z_range => k_is)
    (case z_min => k_is)
    (case z_all => k_is)
    (case z_abs => k_is)

