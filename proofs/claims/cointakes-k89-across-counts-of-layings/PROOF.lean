import PyProof.Rows.All
import Wide.All
import OpenK.AllK
import Wide.FinOn
import KE.DataMinMax
import HandS.ForMost
import HandS.Sort
import HandS.SetFor
import HandS.Strs
import HandS.Conv
import HandS.Defaults
import KE.SortData
import KE.KDictSum
import KE.KDictCopyH
import KE.KDictWalk
import KE.GoesMore
import HandS.Walk
import HandS.IsInst
import HandS.TupLe
import HandS.TupAny
import HandS.Wide
import HandS.Flow
import HandS.Style
import HandS.SortInts
import PySem.Challenge.RW_cointakes_k89_across_counts_of_layings
import HandS.DictSub
import KE.KStateDown
import Lean
import HandS.Base
import HandS.Call
import HandS.Ends
import HandS.More
import HandS.Words
import HandS.WordsExc
import HandS.Head0
import HandS.Head1
import HandS.Head2
import HandS.HeadEnd
import HandS.HeadHook1
import HandS.HeadHook2
set_option Elab.async false
set_option linter.all false
set_option maxRecDepth 100000
set_option maxHeartbeats 0
namespace Ck
/-! ## The plain law of the layings: no program here.
A laying is a list of cells: 0 tail up, 1 head up, 2 empty. -/

/-- turn the coin at a place over, if one lies there -/
def tog : List Nat → Nat → List Nat
  | [], _ => []
  | x :: l, 0 => (if x = 2 then x else 1 - x) :: l
  | x :: l, k + 1 => x :: tog l k
/-- all layings whose coins lie at the marked places -/
def lays : List Bool → List (List Nat)
  | [] => [[]]
  | true :: m => (lays m).map (0 :: ·) ++ (lays m).map (1 :: ·)
  | false :: m => (lays m).map (2 :: ·)
def togs (l : List Nat) (ks : List Nat) : List Nat := ks.foldl tog l
/-- the places beside a place, one for each edge -/
def nbrs (es : List (Nat × Nat)) (p : Nat) : List Nat := (es.filter fun e => e.1 == p || e.2 == p).map fun e => e.1 + e.2 - p
/-- a take -/
def tk (es : List (Nat × Nat)) (l : List Nat) (p : Nat) : List Nat := (togs l (nbrs es p)).set p 2
def heads (l : List Nat) : List Nat := (List.range l.length).filter fun k => l[k]? == some 1
/-- how many coins lie there -/
def live (l : List Nat) : Nat := l.countP fun x => x != 2
/-- the orders that take all coins, f at most -/
def cntF (es : List (Nat × Nat)) : Nat → List Nat → Nat
  | 0, _ => 1
  | f + 1, l => ((heads l).map fun k => cntF es f (tk es l k)).sum
def cnt (es : List (Nat × Nat)) (l : List Nat) : Nat := cntF es (live l) l

/-! ### small facts -/
theorem tog_length : ∀ (l : List Nat) (k : Nat), (tog l k).length = l.length
  | [], _ => rfl
  | x :: l, 0 => rfl
  | x :: l, k + 1 => by show (tog l k).length + 1 = l.length + 1; rw [tog_length l k]
theorem togs_length : ∀ (ks l : List Nat), (togs l ks).length = l.length
  | [], _ => rfl
  | k :: ks, l => by
    show (togs (tog l k) ks).length = l.length
    rw [togs_length ks, tog_length]
theorem tk_length (es : List (Nat × Nat)) (l : List Nat) (p : Nat) : (tk es l p).length = l.length := by
  unfold tk; rw [List.length_set, togs_length]
theorem tog_set : ∀ (l : List Nat) (j k : Nat), (tog l j).set k 2 = tog (l.set k 2) j
  | [], _, _ => rfl
  | x :: l, 0, 0 => rfl
  | x :: l, 0, k + 1 => rfl
  | x :: l, j + 1, 0 => rfl
  | x :: l, j + 1, k + 1 => by
    show x :: (tog l j).set k 2 = x :: tog (l.set k 2) j
    rw [tog_set l j k]
theorem togs_set (k : Nat) : ∀ (ks l : List Nat), (togs l ks).set k 2 = togs (l.set k 2) ks
  | [], _ => rfl
  | j :: ks, l => by
    show (togs (tog l j) ks).set k 2 = togs (tog (l.set k 2) j) ks
    rw [togs_set k ks, tog_set]
theorem tk_eq (es : List (Nat × Nat)) (l : List Nat) (p : Nat) : tk es l p = togs (l.set p 2) (nbrs es p) := togs_set p _ l
theorem tog_live : ∀ (l : List Nat) (k : Nat), live (tog l k) = live l
  | [], _ => rfl
  | x :: l, 0 => by
    show live ((if x = 2 then x else 1 - x) :: l) = live (x :: l)
    unfold live
    rw [List.countP_cons, List.countP_cons]
    by_cases h : x = 2
    · rw [if_pos h]
    · rw [if_neg h]
      have h1 : (1 - x != 2) = true := by rw [bne_iff_ne]; omega
      have h2 : (x != 2) = true := by rw [bne_iff_ne]; exact h
      rw [h1, h2]
  | x :: l, k + 1 => by
    show live (x :: tog l k) = live (x :: l)
    have ih := tog_live l k
    unfold live at ih ⊢
    rw [List.countP_cons, List.countP_cons, ih]
theorem togs_live : ∀ (ks l : List Nat), live (togs l ks) = live l
  | [], _ => rfl
  | k :: ks, l => by
    show live (togs (tog l k) ks) = live l
    rw [togs_live ks, tog_live]
theorem set_live : ∀ (l : List Nat) (k : Nat), l[k]? = some 1 → live (l.set k 2) + 1 = live l
  | [], _, h => by simp at h
  | x :: l, 0, h => by
    have e : x = 1 := Option.some.inj h
    subst e
    show live (2 :: l) + 1 = live (1 :: l)
    unfold live
    rw [List.countP_cons, List.countP_cons]
    rfl
  | x :: l, k + 1, h => by
    have ih := set_live l k h
    show live (x :: l.set k 2) + 1 = live (x :: l)
    unfold live at ih ⊢
    rw [List.countP_cons, List.countP_cons, ← ih]
    omega
theorem tk_live (es : List (Nat × Nat)) (l : List Nat) (k : Nat) (h : l[k]? = some 1) : live (tk es l k) + 1 = live l := by
  rw [tk_eq, togs_live]; exact set_live l k h
theorem mem_heads {l : List Nat} {k : Nat} : k ∈ heads l ↔ l[k]? = some 1 := by
  unfold heads
  rw [List.mem_filter, List.mem_range, beq_iff_eq]
  constructor
  · exact fun h => h.2
  · intro h
    exact ⟨(List.getElem?_eq_some_iff.mp h).1, h⟩
/-- the count's own equation -/
theorem cnt_eq (es : List (Nat × Nat)) (l : List Nat) (h : live l ≠ 0) : cnt es l = ((heads l).map fun k => cnt es (tk es l k)).sum := by
  unfold cnt
  obtain ⟨f, hf⟩ : ∃ f, live l = f + 1 := ⟨live l - 1, by omega⟩
  rw [hf]
  show ((heads l).map fun k => cntF es f (tk es l k)).sum = _
  congr 1
  apply List.map_congr_left
  intro k hk
  have := tk_live es l k (mem_heads.mp hk)
  have e : live (tk es l k) = f := by omega
  rw [e]
theorem cnt_zero (es : List (Nat × Nat)) (l : List Nat) (h : live l = 0) : cnt es l = 1 := by
  unfold cnt; rw [h]; rfl

/-! ### sums over lists -/
theorem sum_map_add {α : Type} (f g : α → Nat) : ∀ l : List α, (l.map fun x => f x + g x).sum = (l.map f).sum + (l.map g).sum
  | [] => rfl
  | x :: l => by
    rw [List.map_cons, List.map_cons, List.map_cons, List.sum_cons, List.sum_cons, List.sum_cons, sum_map_add f g l]
    omega
theorem sum_map_zero {α : Type} : ∀ l : List α, (l.map fun _ => 0).sum = 0
  | [] => rfl
  | x :: l => by rw [List.map_cons, List.sum_cons, sum_map_zero l]
theorem sum_swap {α β : Type} (f : α → β → Nat) (ys : List β) : ∀ xs : List α, (xs.map fun x => (ys.map fun y => f x y).sum).sum = (ys.map fun y => (xs.map fun x => f x y).sum).sum
  | [] => (sum_map_zero ys).symm
  | x :: xs => by
    rw [List.map_cons, List.sum_cons, sum_swap f ys xs, ← sum_map_add]
    rfl
theorem sum_filter {α : Type} (p : α → Bool) (f : α → Nat) : ∀ l : List α, ((l.filter p).map f).sum = (l.map fun x => if p x = true then f x else 0).sum
  | [] => rfl
  | x :: l => by
    rw [List.map_cons, List.sum_cons, ← sum_filter p f l, List.filter_cons]
    by_cases h : p x = true
    · rw [if_pos h, if_pos h, List.map_cons, List.sum_cons]
    · rw [if_neg h, if_neg h]
      omega

theorem sum_pos {α : Type} (f : α → Nat) : ∀ l : List α, 0 < (l.map f).sum → ∃ x, x ∈ l ∧ 0 < f x
  | [], h => absurd h (Nat.lt_irrefl 0)
  | x :: l, h => by
    rw [List.map_cons, List.sum_cons] at h
    by_cases e : 0 < f x
    · exact ⟨x, List.mem_cons_self, e⟩
    · obtain ⟨y, hy, hp⟩ := sum_pos f l (by omega)
      exact ⟨y, List.mem_cons_of_mem _ hy, hp⟩

/-! ### toggling leaves the sum over all layings of a mask -/
theorem sum_tog (f : List Nat → Nat) : ∀ (m : List Bool) (k : Nat), ((lays m).map fun l => f (tog l k)).sum = ((lays m).map f).sum
  | [], k => by
    show f (tog [] k) + 0 = f [] + 0
    rfl
  | true :: m, 0 => by
    show (((lays m).map (0 :: ·) ++ (lays m).map (1 :: ·)).map fun l => f (tog l 0)).sum = (((lays m).map (0 :: ·) ++ (lays m).map (1 :: ·)).map f).sum
    rw [List.map_append, List.map_append, List.sum_append, List.sum_append, List.map_map, List.map_map, List.map_map, List.map_map]
    show ((lays m).map fun l => f (1 :: l)).sum + ((lays m).map fun l => f (0 :: l)).sum = ((lays m).map fun l => f (0 :: l)).sum + ((lays m).map fun l => f (1 :: l)).sum
    omega
  | false :: m, 0 => by
    show (((lays m).map (2 :: ·)).map fun l => f (tog l 0)).sum = (((lays m).map (2 :: ·)).map f).sum
    rw [List.map_map, List.map_map]
    rfl
  | true :: m, k + 1 => by
    show (((lays m).map (0 :: ·) ++ (lays m).map (1 :: ·)).map fun l => f (tog l (k + 1))).sum = (((lays m).map (0 :: ·) ++ (lays m).map (1 :: ·)).map f).sum
    rw [List.map_append, List.map_append, List.sum_append, List.sum_append, List.map_map, List.map_map, List.map_map, List.map_map]
    have a := sum_tog (fun l => f (0 :: l)) m k
    have b := sum_tog (fun l => f (1 :: l)) m k
    show ((lays m).map fun l => f (0 :: tog l k)).sum + ((lays m).map fun l => f (1 :: tog l k)).sum = ((lays m).map fun l => f (0 :: l)).sum + ((lays m).map fun l => f (1 :: l)).sum
    rw [a, b]
  | false :: m, k + 1 => by
    show (((lays m).map (2 :: ·)).map fun l => f (tog l (k + 1))).sum = (((lays m).map (2 :: ·)).map f).sum
    rw [List.map_map, List.map_map]
    exact sum_tog (fun l => f (2 :: l)) m k
theorem sum_togs (f : List Nat → Nat) (m : List Bool) : ∀ ks : List Nat, ((lays m).map fun l => f (togs l ks)).sum = ((lays m).map f).sum
  | [] => rfl
  | k :: ks => by
    show ((lays m).map fun l => f (togs (tog l k) ks)).sum = ((lays m).map f).sum
    rw [sum_tog (fun l => f (togs l ks)) m k, sum_togs f m ks]
/-- how many places are marked -/
def marks (m : List Bool) : Nat := m.countP fun b => b
/-- those with a head at k, the head gone: all layings of the mask without k -/
theorem sum_head (g : List Nat → Nat) : ∀ (m : List Bool) (k : Nat), ((lays m).map fun l => if (l[k]? == some 1) = true then g (l.set k 2) else 0).sum = if m[k]? = some true then ((lays (m.set k false)).map g).sum else 0
  | [], k => by
    show (if ((([] : List Nat)[k]?) == some 1) = true then _ else 0) + 0 = _
    simp
  | true :: m, 0 => by
    show (((lays m).map (0 :: ·) ++ (lays m).map (1 :: ·)).map fun l => if (l[0]? == some 1) = true then g (l.set 0 2) else 0).sum = (((lays m).map (2 :: ·)).map g).sum
    rw [List.map_append, List.sum_append, List.map_map, List.map_map, List.map_map]
    show ((lays m).map fun _ => 0).sum + ((lays m).map fun l => g (2 :: l)).sum = ((lays m).map fun l => g (2 :: l)).sum
    rw [sum_map_zero]
    omega
  | false :: m, 0 => by
    show (((lays m).map (2 :: ·)).map fun l => if (l[0]? == some 1) = true then g (l.set 0 2) else 0).sum = 0
    rw [List.map_map]
    exact sum_map_zero _
  | true :: m, k + 1 => by
    have a := sum_head (fun l => g (0 :: l)) m k
    have b := sum_head (fun l => g (1 :: l)) m k
    show (((lays m).map (0 :: ·) ++ (lays m).map (1 :: ·)).map fun l => if (l[k + 1]? == some 1) = true then g (l.set (k + 1) 2) else 0).sum = if m[k]? = some true then (((lays (m.set k false)).map (0 :: ·) ++ (lays (m.set k false)).map (1 :: ·)).map g).sum else 0
    rw [List.map_append, List.sum_append, List.map_map, List.map_map, List.map_append, List.sum_append, List.map_map, List.map_map]
    show ((lays m).map fun l => if (l[k]? == some 1) = true then g (0 :: l.set k 2) else 0).sum + ((lays m).map fun l => if (l[k]? == some 1) = true then g (1 :: l.set k 2) else 0).sum = if m[k]? = some true then ((lays (m.set k false)).map fun l => g (0 :: l)).sum + ((lays (m.set k false)).map fun l => g (1 :: l)).sum else 0
    rw [a, b]
    split <;> rfl
  | false :: m, k + 1 => by
    have a := sum_head (fun l => g (2 :: l)) m k
    show (((lays m).map (2 :: ·)).map fun l => if (l[k + 1]? == some 1) = true then g (l.set (k + 1) 2) else 0).sum = if m[k]? = some true then (((lays (m.set k false)).map (2 :: ·)).map g).sum else 0
    rw [List.map_map, List.map_map]
    exact a
theorem marks_set : ∀ (m : List Bool) (k : Nat), m[k]? = some true → marks (m.set k false) + 1 = marks m
  | [], _, h => by simp at h
  | b :: m, 0, h => by
    have e : b = true := Option.some.inj h
    subst e
    show marks (false :: m) + 1 = marks (true :: m)
    unfold marks
    rw [List.countP_cons, List.countP_cons]
    rfl
  | b :: m, k + 1, h => by
    have ih := marks_set m k h
    show marks (b :: m.set k false) + 1 = marks (b :: m)
    unfold marks at ih ⊢
    rw [List.countP_cons, List.countP_cons, ← ih]
    omega
theorem lays_length : ∀ (m : List Bool) (l : List Nat), l ∈ lays m → l.length = m.length
  | [], l, h => by
    have e : l = [] := List.mem_singleton.mp h
    rw [e]; rfl
  | true :: m, l, h => by
    rcases List.mem_append.mp (show l ∈ (lays m).map (0 :: ·) ++ (lays m).map (1 :: ·) from h) with h | h
    · obtain ⟨r, hr, rfl⟩ := List.mem_map.mp h
      show r.length + 1 = m.length + 1
      rw [lays_length m r hr]
    · obtain ⟨r, hr, rfl⟩ := List.mem_map.mp h
      show r.length + 1 = m.length + 1
      rw [lays_length m r hr]
  | false :: m, l, h => by
    obtain ⟨r, hr, rfl⟩ := List.mem_map.mp (show l ∈ (lays m).map (2 :: ·) from h)
    show r.length + 1 = m.length + 1
    rw [lays_length m r hr]
theorem lays_live : ∀ (m : List Bool) (l : List Nat), l ∈ lays m → live l = marks m
  | [], l, h => by
    have e : l = [] := List.mem_singleton.mp h
    rw [e]; rfl
  | true :: m, l, h => by
    rcases List.mem_append.mp (show l ∈ (lays m).map (0 :: ·) ++ (lays m).map (1 :: ·) from h) with h | h
    · obtain ⟨r, hr, rfl⟩ := List.mem_map.mp h
      have ih := lays_live m r hr
      unfold live marks at ih ⊢
      rw [List.countP_cons, List.countP_cons, ih]
      rfl
    · obtain ⟨r, hr, rfl⟩ := List.mem_map.mp h
      have ih := lays_live m r hr
      unfold live marks at ih ⊢
      rw [List.countP_cons, List.countP_cons, ih]
      rfl
  | false :: m, l, h => by
    obtain ⟨r, hr, rfl⟩ := List.mem_map.mp (show l ∈ (lays m).map (2 :: ·) from h)
    have ih := lays_live m r hr
    unfold live marks at ih ⊢
    rw [List.countP_cons, List.countP_cons, ih]
    rfl
def fac : Nat → Nat
  | 0 => 1
  | n + 1 => (n + 1) * fac n
theorem sum_const_marks (c : Nat) (m : List Bool) : ((List.range m.length).map fun k => if m[k]? = some true then c else 0).sum = marks m * c := by
  induction m with
  | nil => rw [show marks [] = 0 from rfl, Nat.zero_mul]; rfl
  | cons b m ih =>
    rw [List.length_cons, List.range_succ_eq_map, List.map_cons, List.sum_cons, List.map_map]
    show (if (b :: m)[0]? = some true then c else 0) + ((List.range m.length).map fun k => if m[k]? = some true then c else 0).sum = _
    rw [ih]
    unfold marks
    rw [List.countP_cons]
    cases b with
    | true =>
      show c + _ = (_ + 1) * c
      rw [Nat.add_mul]
      omega
    | false =>
      show 0 + _ = (_ + 0) * c
      rw [Nat.add_zero, Nat.zero_add]
/-- all counts together are the product of 1 to the number of coins -/
theorem sum_cnt (es : List (Nat × Nat)) : ∀ (r : Nat) (m : List Bool), marks m = r → ((lays m).map (cnt es)).sum = fac r
  | 0, m, h => by
    have a : ((lays m).map (cnt es)) = (lays m).map fun _ => 1 := List.map_congr_left fun l hl => cnt_zero es l (by rw [lays_live m l hl, h])
    rw [a]
    have one : ∀ m : List Bool, marks m = 0 → ((lays m).map fun _ => 1).sum = 1 := by
      intro m
      induction m with
      | nil => intro _; rfl
      | cons b m ih =>
        intro hm
        unfold marks at hm ih
        rw [List.countP_cons] at hm
        cases b with
        | true => simp at hm
        | false =>
          show (((lays m).map (2 :: ·)).map fun _ => 1).sum = 1
          rw [List.map_map]
          exact ih (by simpa using hm)
    exact one m h
  | r + 1, m, h => by
    have a : ((lays m).map (cnt es)) = (lays m).map fun l => ((List.range m.length).map fun k => if (l[k]? == some 1) = true then cnt es (togs (l.set k 2) (nbrs es k)) else 0).sum := by
      apply List.map_congr_left
      intro l hl
      rw [cnt_eq es l (by rw [lays_live m l hl, h]; exact Nat.succ_ne_zero r)]
      unfold heads
      rw [sum_filter, lays_length m l hl]
      congr 1
      apply List.map_congr_left
      intro k _
      rw [tk_eq]
    rw [a, sum_swap]
    have b : ((List.range m.length).map fun k => ((lays m).map fun l => if (l[k]? == some 1) = true then cnt es (togs (l.set k 2) (nbrs es k)) else 0).sum) = (List.range m.length).map fun k => if m[k]? = some true then fac r else 0 := by
      apply List.map_congr_left
      intro k _
      rw [sum_head (fun l => cnt es (togs l (nbrs es k))) m k]
      by_cases hk : m[k]? = some true
      · rw [if_pos hk, if_pos hk, sum_togs (cnt es)]
        exact sum_cnt es r (m.set k false) (by have := marks_set m k hk; omega)
      · rw [if_neg hk, if_neg hk]
    rw [b, sum_const_marks, h]
    rfl

/-! ### heads, coins and edges together are even -/
def lv (l : List Nat) (k : Nat) : Bool := match l[k]? with
  | some x => x != 2
  | none => false
def ones (l : List Nat) : Nat := l.countP fun x => x == 1
def Cells (l : List Nat) : Prop := ∀ x ∈ l, x ≤ 2
def edgesIn (es : List (Nat × Nat)) (l : List Nat) : Nat := es.countP fun e => lv l e.1 && lv l e.2
theorem Cells.tog : ∀ {l : List Nat} (k : Nat), Cells l → Cells (tog l k)
  | [], _, h => h
  | x :: l, 0, h => fun y hy => by
    rcases List.mem_cons.mp (show y ∈ (if x = 2 then x else 1 - x) :: l from hy) with e | hy
    · have hx := h x List.mem_cons_self
      rw [e]; split <;> omega
    · exact h y (List.mem_cons_of_mem _ hy)
  | x :: l, k + 1, h => fun y hy => by
    rcases List.mem_cons.mp (show y ∈ x :: Ck.tog l k from hy) with e | hy
    · rw [e]; exact h x List.mem_cons_self
    · exact Cells.tog k (fun z hz => h z (List.mem_cons_of_mem _ hz)) y hy
theorem Cells.togs : ∀ (ks : List Nat) {l : List Nat}, Cells l → Cells (togs l ks)
  | [], _, h => h
  | k :: ks, l, h => by
    show Cells (Ck.togs (Ck.tog l k) ks)
    exact Cells.togs ks (h.tog k)
theorem Cells.set : ∀ {l : List Nat} (k : Nat), Cells l → Cells (l.set k 2)
  | [], _, h => h
  | x :: l, 0, h => fun y hy => by
    rcases List.mem_cons.mp (show y ∈ 2 :: l from hy) with e | hy
    · rw [e]; exact Nat.le_refl 2
    · exact h y (List.mem_cons_of_mem _ hy)
  | x :: l, k + 1, h => fun y hy => by
    rcases List.mem_cons.mp (show y ∈ x :: l.set k 2 from hy) with e | hy
    · rw [e]; exact h x List.mem_cons_self
    · exact Cells.set k (fun z hz => h z (List.mem_cons_of_mem _ hz)) y hy
theorem Cells.tk {l : List Nat} (es : List (Nat × Nat)) (k : Nat) (h : Cells l) : Cells (tk es l k) := by
  rw [tk_eq]; exact (h.set k).togs _
theorem lv_tog : ∀ (l : List Nat) (j k : Nat), lv (tog l j) k = lv l k
  | [], _, _ => rfl
  | x :: l, 0, 0 => by
    show ((if x = 2 then x else 1 - x) != 2) = (x != 2)
    by_cases h : x = 2
    · rw [if_pos h]
    · rw [if_neg h]
      have h1 : (1 - x != 2) = true := by rw [bne_iff_ne]; omega
      have h2 : (x != 2) = true := by rw [bne_iff_ne]; exact h
      rw [h1, h2]
  | x :: l, 0, k + 1 => rfl
  | x :: l, j + 1, 0 => rfl
  | x :: l, j + 1, k + 1 => lv_tog l j k
theorem lv_togs (k : Nat) : ∀ (js l : List Nat), lv (togs l js) k = lv l k
  | [], _ => rfl
  | j :: js, l => by
    show lv (togs (tog l j) js) k = lv l k
    rw [lv_togs k js, lv_tog]
theorem lv_set_same : ∀ (l : List Nat) (k : Nat), lv (l.set k 2) k = false
  | [], _ => rfl
  | x :: l, 0 => rfl
  | x :: l, k + 1 => lv_set_same l k
theorem lv_set_ne : ∀ (l : List Nat) (j k : Nat), j ≠ k → lv (l.set k 2) j = lv l j
  | [], _, _, _ => rfl
  | x :: l, 0, 0, h => absurd rfl h
  | x :: l, 0, k + 1, _ => rfl
  | x :: l, j + 1, 0, _ => rfl
  | x :: l, j + 1, k + 1, h => lv_set_ne l j k fun e => h (congrArg (· + 1) e)
theorem lv_one {l : List Nat} {k : Nat} (h : l[k]? = some 1) : lv l k = true := by
  unfold lv; rw [h]; rfl
def b1 (b : Bool) : Nat := if b = true then 1 else 0
theorem ones_cons (x : Nat) (l : List Nat) : ones (x :: l) = ones l + b1 (x == 1) := by
  unfold ones; rw [List.countP_cons]; rfl
theorem ones_tog : ∀ (l : List Nat) (k : Nat), Cells l → (ones (tog l k) + ones l + b1 (lv l k)) % 2 = 0
  | [], _, _ => rfl
  | x :: l, 0, h => by
    have hx := h x List.mem_cons_self
    show (ones ((if x = 2 then x else 1 - x) :: l) + ones (x :: l) + b1 (x != 2)) % 2 = 0
    rw [ones_cons, ones_cons]
    have c : x = 0 ∨ x = 1 ∨ x = 2 := by omega
    rcases c with rfl | rfl | rfl
    · show (ones l + 1 + (ones l + 0) + 1) % 2 = 0
      omega
    · show (ones l + 0 + (ones l + 1) + 1) % 2 = 0
      omega
    · show (ones l + 0 + (ones l + 0) + 0) % 2 = 0
      omega
  | x :: l, k + 1, h => by
    have ih := ones_tog l k fun z hz => h z (List.mem_cons_of_mem _ hz)
    show (ones (x :: tog l k) + ones (x :: l) + b1 (lv l k)) % 2 = 0
    rw [ones_cons, ones_cons]
    omega
theorem ones_togs : ∀ (ks l : List Nat), Cells l → (ones (togs l ks) + ones l + ks.countP (fun k => lv l k)) % 2 = 0
  | [], l, _ => by
    show (ones l + ones l + 0) % 2 = 0
    omega
  | k :: ks, l, h => by
    have a := ones_tog l k h
    have b := ones_togs ks (tog l k) (h.tog k)
    have e : ks.countP (fun j => lv (tog l k) j) = ks.countP (fun j => lv l j) := by
      congr 1
      funext j
      exact lv_tog l k j
    rw [e] at b
    show (ones (togs (tog l k) ks) + ones l + (k :: ks).countP (fun j => lv l j)) % 2 = 0
    rw [List.countP_cons]
    show (ones (togs (tog l k) ks) + ones l + (ks.countP (fun j => lv l j) + b1 (lv l k))) % 2 = 0
    omega
theorem ones_set : ∀ (l : List Nat) (k : Nat), l[k]? = some 1 → ones (l.set k 2) + 1 = ones l
  | [], _, h => by simp at h
  | x :: l, 0, h => by
    have e : x = 1 := Option.some.inj h
    subst e
    show ones (2 :: l) + 1 = ones (1 :: l)
    rw [ones_cons, ones_cons]
    rfl
  | x :: l, k + 1, h => by
    have ih := ones_set l k h
    show ones (x :: l.set k 2) + 1 = ones (x :: l)
    rw [ones_cons, ones_cons]
    omega
theorem live_zero_ones : ∀ (l : List Nat), live l = 0 → ones l = 0
  | [], _ => rfl
  | x :: l, h => by
    unfold live at h
    rw [List.countP_cons] at h
    have ih := live_zero_ones l (by unfold live; omega)
    rw [ones_cons, ih]
    by_cases e : x = 2
    · subst e; rfl
    · have h2 : (x != 2) = true := by rw [bne_iff_ne]; exact e
      rw [h2] at h
      simp at h
theorem live_zero_lv : ∀ (l : List Nat), live l = 0 → ∀ k, lv l k = false
  | [], _, _ => rfl
  | x :: l, h, 0 => by
    unfold live at h
    rw [List.countP_cons] at h
    show (x != 2) = false
    cases e : (x != 2) with
    | false => rfl
    | true => rw [e] at h; simp at h
  | x :: l, h, k + 1 => by
    unfold live at h
    rw [List.countP_cons] at h
    exact live_zero_lv l (by unfold live; omega) k
theorem edge_one (l : List Nat) (k : Nat) (hk : l[k]? = some 1) (e : Nat × Nat) (ne : e.1 ≠ e.2) :
    b1 (lv l e.1 && lv l e.2) = b1 (lv (l.set k 2) e.1 && lv (l.set k 2) e.2) + b1 ((e.1 == k || e.2 == k) && lv (l.set k 2) (e.1 + e.2 - k)) := by
  by_cases h1 : e.1 = k
  · have h2 : e.2 ≠ k := fun z => ne (h1.trans z.symm)
    have i2 : (e.1 == k) = true := by rw [beq_iff_eq]; exact h1
    have i3 : e.1 + e.2 - k = e.2 := by omega
    rw [i2, i3, lv_set_ne l e.2 k h2, h1, lv_set_same, lv_one hk]
    simp [b1]
  · by_cases h2 : e.2 = k
    · have i2 : (e.2 == k) = true := by rw [beq_iff_eq]; exact h2
      have i3 : e.1 + e.2 - k = e.1 := by omega
      rw [i2, i3, lv_set_ne l e.1 k h1, h2, lv_set_same, lv_one hk]
      simp [b1]
    · have i1 : (e.1 == k) = false := by rw [beq_eq_false_iff_ne]; exact h1
      have i2 : (e.2 == k) = false := by rw [beq_eq_false_iff_ne]; exact h2
      rw [i1, i2, lv_set_ne l e.1 k h1, lv_set_ne l e.2 k h2]
      simp [b1]
theorem edges_set (l : List Nat) (k : Nat) (hk : l[k]? = some 1) : ∀ es : List (Nat × Nat), (∀ e ∈ es, e.1 ≠ e.2) →
    edgesIn es l = edgesIn es (l.set k 2) + (nbrs es k).countP fun j => lv (l.set k 2) j
  | [], _ => rfl
  | e :: es, h => by
    have ih := edges_set l k hk es fun z hz => h z (List.mem_cons_of_mem _ hz)
    have one := edge_one l k hk e (h e List.mem_cons_self)
    unfold edgesIn at ih ⊢
    rw [List.countP_cons, List.countP_cons, ih]
    have n : (nbrs (e :: es) k).countP (fun j => lv (l.set k 2) j) = (nbrs es k).countP (fun j => lv (l.set k 2) j) + b1 ((e.1 == k || e.2 == k) && lv (l.set k 2) (e.1 + e.2 - k)) := by
      unfold nbrs
      rw [List.filter_cons]
      cases c : (e.1 == k || e.2 == k) with
      | true =>
        rw [if_pos rfl, List.map_cons, List.countP_cons, Bool.true_and]
        rfl
      | false =>
        rw [if_neg Bool.false_ne_true, Bool.false_and]
        rfl
    rw [n]
    unfold b1 at one ⊢
    omega
/-- a laying that can be cleared: heads, coins and edges between coins are even together -/
theorem parity (es : List (Nat × Nat)) (hes : ∀ e ∈ es, e.1 ≠ e.2) : ∀ (r : Nat) (l : List Nat), live l = r → Cells l → 0 < cnt es l → (ones l + live l + edgesIn es l) % 2 = 0
  | 0, l, h, _, _ => by
    have e : edgesIn es l = 0 := by
      unfold edgesIn
      rw [List.countP_eq_zero]
      intro e _
      rw [live_zero_lv l h e.1]
      exact Bool.false_ne_true
    rw [h, live_zero_ones l h, e]
  | r + 1, l, h, hc, hp => by
    rw [cnt_eq es l (by omega)] at hp
    obtain ⟨k, hk', hpk⟩ := sum_pos (fun k => cnt es (tk es l k)) (heads l) hp
    have hk := mem_heads.mp hk'
    have hl := tk_live es l k hk
    have ih := parity es hes r (tk es l k) (by omega) (hc.tk es k) hpk
    have eE : edgesIn es (tk es l k) = edgesIn es (l.set k 2) := by
      unfold edgesIn
      congr 1
      funext e
      rw [tk_eq, lv_togs, lv_togs]
    have eD := edges_set l k hk es hes
    have eO := ones_togs (nbrs es k) (l.set k 2) (hc.set k)
    rw [← tk_eq] at eO
    have e1 := ones_set l k hk
    rw [eE] at ih
    omega
end Ck

/-! rules of our own over the layer -/
namespace Ck
open PySem PySem.Spec PyProof.Rows L2

/-! ### a def of the module, by its promise -/
structure Cl (P : Program) (w : World) (K : PySem.W.Frag) (mg : Str → Option Value) (base : Heap) (k : Nat) (x : Str) (sp : Sp) : Prop where
  ex : ∃ (f : Addr) (fd : FuncData) (ps : List Str), FnOk P w K mg base CX0 k f fd ps sp ∧ mg x = some (.ref f) ∧ PySem.W.keepIn K (.ref f) = true ∧ Binds K fd ps []
def tC1 (sp : Sp) (t : TA) : TE := fun σ H Q => t σ H fun vs H1 => sp vs H1 Q E0
theorem pc {X : Cx} {j k : Nat} {x : Str} {sp : Sp} {e : Expr} {es : List Expr} {t : TA} {p pos : Pos} (hr : Room j X.A) (c : Cl X.prog X.w X.K X.mg X.base k x sp) (hk : k ≤ j) (hg : Gl X x) (ha : PA X (e :: es) t)
    (hdb : (x == ("__debug__" : Str)) = false := by decide) (he : starEach (e :: es) X.env = (false, eval e X.env) :: starEach es X.env := by rfl) (hpl : (backTo pos (starEach es X.env)).any (·.1) = false := by rfl) :
    PE X (.Call (.Name x p) (e :: es) [] pos) (tC1 sp t) := by
  obtain ⟨f, fd, ps, F, hm, hkp, hb⟩ := c.ex
  have h := pe_call (p := p) F (hr.mono hk) hg hm hkp hb .nil pass0 ha hdb he hpl
  have e1 : tCall sp ([] : List V) E0 t = tC1 sp t := by
    funext σ H Q
    show t σ H (fun vs H1 => sp (vs ++ []) H1 Q E0) = t σ H fun vs H1 => sp vs H1 Q E0
    congr 1
    funext vs H1
    rw [List.append_nil]
  rw [← e1]
  exact h

/-! ### sum of a tuple of ints -/
section
variable {prog : Program} {w : World} {A : Around} {E : Value → Shared → Prop} {s : Shared} {l : Addr} {xs : Array (Int × Tok)}
theorem iter_intTup {Q : Value → Shared → Prop} (hl : s.heap.IsTuple l (intItems xs))
    (h : ∀ s₂ : Shared, s₂ = { s with heap := s.heap.push { cls := .type "tuple_iterator", data := .fields #[.ref l, .int 0 0] } } →
      (s₂.heap.IsTupleIter s.heap.objs.size l 0 ∧ s₂.heap.IsTuple l (intItems xs)) → (∀ b ∈ [s.heap.objs.size, l], b < s₂.heap.objs.size) → l ≠ s.heap.objs.size → Q (.ref s.heap.objs.size) s₂) :
    wpAny (model prog w) A (pyIter (.ref l)) Q E s := by
  have hlt : l < s.heap.objs.size := by obtain ⟨_, e, _⟩ := hl; exact Heap.lt_size e
  refine wpAny_pyIter_tuple hl (h _ rfl ⟨⟨_, Heap.get?_push_size _ rfl, rfl, rfl⟩, hl.push _⟩ (fun b hb => ?_) (Nat.ne_of_lt hlt))
  show b < (s.heap.push _).objs.size
  rw [Heap.size_push]
  rcases List.mem_cons.mp hb with rfl | hb
  · exact Nat.lt_succ_self _
  · rcases List.mem_cons.mp hb with rfl | hb
    · exact Nat.lt_succ_of_lt hlt
    · cases hb
theorem old_keptT {h' : Heap} (hk : ∀ b o, b ∉ [s.heap.objs.size] → (s.heap.push { cls := .type "tuple_iterator", data := .fields #[.ref l, .int 0 0] }).get? b = some o → h'.get? b = some o) :
    ∀ b o, s.heap.get? b = some o → h'.get? b = some o := fun b o e => by
  refine hk b o (fun hm => ?_) (Heap.get?_push_of_some _ e)
  rcases List.mem_cons.mp hm with e1 | hm
  · exact absurd (e1 ▸ Heap.lt_size e) (Nat.lt_irrefl _)
  · cases hm
theorem sum_intTup {Q : Value → Shared → Prop} (hh : A.handled = none) (hl : s.heap.IsTuple l (intItems xs))
    (h : ∀ h' tk t', (∀ b o, s.heap.get? b = some o → h'.get? b = some o) → Q (.int (preSum (numAt xs) xs.size) t') { s with heap := h', toks := tk }) :
    wpAny (model prog w) A (call (.builtin "sum") [.ref l]) Q E s := by
  refine call_sum_walkG (iter_intTup hl fun s₂ e st hfp hlI => ?_)
  subst e
  refine ⟨_, _, _, _, _, _, numAt xs, rfl, Walks.tuple (A := A.in1) hh _ l hlI (intItems xs), st, hfp, (fun _ _ => intItems_at), fun h' tk t' hk => ?_⟩
  have := h h' tk t' (old_keptT hk)
  simpa [intItems] using this
theorem sum_rawT {its : List Value} {ns : List Int} {Q : Value → Shared → Prop} (hh : A.handled = none) (hl : s.heap.IsTuple l its.toArray) (hi : IntsAre its ns)
    (h : ∀ h' tk t', (∀ b o, s.heap.get? b = some o → h'.get? b = some o) → Q (.int ns.sum t') { s with heap := h', toks := tk }) : wpAny (model prog w) A (call (.builtin "sum") [.ref l]) Q E s := by
  obtain ⟨xs, e⟩ := hi.allInts.items
  have hn : numsOf (intItems xs).toList = ns := by rw [← e]; exact hi.numsOf
  rw [nums_intItems] at hn
  rw [e] at hl
  refine sum_intTup hh hl fun h' tk t' hk => ?_
  have := h h' tk t' hk
  rw [preSum_eq, List.take_of_length_le (by simp), hn]; exact this
end
section
variable {X : Cx}
def rSumT (K : PySem.W.Frag) : List V → Hp → VK → Prop := fun vs H Q => ∃ (a : Addr) (ns : List Int), vs = [V.ref a] ∧ SqT K H a (ns.map V.int) ∧ Q (.int ns.sum) H
theorem cr_sumT (hc : X.calm = true) : CallR X (.builtin "sum") (rSumT X.K) := by
  intro pins s σ H vs us Q I r h
  obtain ⟨a, ns, rfl, hs, q⟩ := h
  obtain ⟨its, rv, hl, _⟩ := I.tuple hs
  rw [Vals.ref1 r]
  exact sum_rawT (I.ok.hd hc) hl rv.ints fun h' tk t' hk => ⟨.int _, H, I.kept hk, ⟨_, rfl⟩, q⟩

/-! ### xs[i] read for xs[i] op= e -/
def rGetL : V → V → Hp → VK → Prop := fun o i H Q => ∃ (p : Addr) (xs : List V) (k : Nat) (v : V), o = .ref p ∧ i = .int (k : Int) ∧ H p = some (.lst xs) ∧ xs[k]? = some v ∧ Q v H
theorem pget_list : PGet X rGetL := by
  intro pins s σ H o i ov iv Q I ro ri h
  obtain ⟨p, xs, k, v, rfl, rfl, hp, hv, q⟩ := h
  cases ro
  obtain ⟨t, rfl⟩ := ri
  obtain ⟨its, r, pl, hz⟩ := I.list (SqL.of hp)
  obtain ⟨w, ew, rw'⟩ := r.get hv
  have hl := r.length
  have hlt : k < xs.length := (List.getElem?_eq_some_iff.mp hv).1
  have hn := line63
  have e63 : (k : Int) < 2 ^ 63 := by omega
  exact wpAny_getItem_list pl.isList (by omega) e63 (by rw [Int.toNat_natCast]; simpa using ew) ⟨v, H, I, rw', q⟩

/-! ### set(t) of a tuple of ints -/
def rSetT (K : PySem.W.Frag) (w : World) : List V → Hp → VK → Prop := fun vs H Q => ∃ (p : Addr) (ns : List Int), vs = [V.ref p] ∧ SqT K H p (ns.map V.int) ∧ ns.length ≤ 1000 ∧
  ∀ (a : Addr) (c : Nat), c ≤ ns.length → H a = none → Q (.ref a) (upd H a (SetO w a (fun j => decide (j ∈ ns)) c))
theorem cr_setT (hc : X.calm = true) : CallR X (.type "set") (rSetT X.K X.w) := by
  intro pins s σ H vs us Q I r h
  obtain ⟨p, ns, rfl, hs, hlen, q⟩ := h
  obtain ⟨its, rv, hl, _⟩ := I.tuple hs
  rw [Vals.ref1 r]
  refine call_set_tupI ns (I.ok.hd hc) hl rv.ints (Nat.lt_of_le_of_lt (Nat.succ_le_succ hlen) (by decide +kernel)) fun h' tk c R hle hk => ?_
  exact ⟨.ref _, upd H s.heap.objs.size (SetO X.w s.heap.objs.size (fun j => decide (j ∈ ns)) c), I.laid hk (Nat.le_refl _) (setO_new R), rfl, q _ c hle (I.hok.fresh (Nat.le_refl _))⟩

/-! ### tuple(range(a, b, c)) -/
def tTupRg3 (ta : TA) : TE := fun σ H Q => ta σ H fun vs H1 => ∃ (i j c : Int) (n : Nat), vs = [.int i, .int j, .int c] ∧ RgC i j c n ∧ n ≤ 2 ^ 24 ∧ ∀ q, H1 q = none → Q (.ref q) (upd H1 q (.tup ((List.range n).map fun m => V.int (i + (m : Nat) * c))))
theorem vals_rg3 {a c : Int} {n : Nat} {acc : Array Value} (h : ItemsOf (fun i v => ∃ t, v = .int (a + i * c) t) acc n) : Vals ((List.range n).map fun m => V.int (a + (m : Nat) * c)) acc.toList := by
  have e : acc.toList.length = n := by rw [Array.length_toList]; exact h.1
  rw [← e]
  refine vals_of_get acc.toList _ fun j u hj => ?_
  obtain ⟨t, rfl⟩ := h.2 j u (by rw [← hj, Array.getElem?_toList])
  exact ⟨t, rfl⟩
theorem pe_tupRg3 {a b c : Expr} {ta : TA} {p pos p2 pos2 : Pos} (hc : X.calm = true) (hg : Gl X "tuple") (hm : X.mg "tuple" = none) (hg2 : Gl X "range") (hm2 : X.mg "range" = none) (ha : PA X [a, b, c] ta)
    (hs : starEach [a, b, c] X.env = (false, eval a X.env) :: starEach [b, c] X.env := by rfl) (hpl : (backTo pos2 (starEach [b, c] X.env)).any (·.1) = false := by rfl)
    (na : starEach [.Call (.Name "range" p2) [a, b, c] [] pos2] X.env = (false, eval (.Call (.Name "range" p2) [a, b, c] [] pos2) X.env) :: starEach [] X.env := by rfl) :
    PE X (.Call (.Name "tuple" p) [.Call (.Name "range" p2) [a, b, c] [] pos2] [] pos) (tTupRg3 ta) := by
  refine ⟨fun pins s σ H Q I h => ?_⟩
  refine Call_ (ld_blt I hg hm boot_tuple (PyProof.Rows.callWith_type1 (args_cons (Call_ (ld_blt I hg2 hm2 boot_range (PyProof.Rows.callWith_type1 (thn (ha.run pos2 pins s σ H _ I h) fun us s1 ⟨vs, H1, I1, r1, q1⟩ => ?_) hs hpl))) na) na))
  obtain ⟨i, j, k, n, e, ⟨c0, c1, c2, c3⟩, hn, q⟩ := q1
  subst e
  cases r1 with
  | cons r rr =>
    cases rr with
    | cons r' rr =>
      cases rr with
      | cons r'' rr =>
        cases rr
        obtain ⟨t, rfl⟩ := r
        obtain ⟨t', rfl⟩ := r'
        obtain ⟨t'', rfl⟩ := r''
        refine call_range_3 c0 (args_nil ?_) (.inl (PyProof.noPylong_small c1))
        have I2 : Inv X pins σ H1 { s1 with heap := s1.heap.push { cls := .type "range", data := .fields #[.int i t, .int j t', .int k t''] } } := I1.kept (t' := s1.toks) fun b o e => Heap.get?_push_of_some _ e
        refine call_tuple_range (n := n) (I1.ok.hd hc) (IsRange.new ..) c2 c3 hn fun h' tk acc hk hi => ?_
        have I3 : Inv X pins σ H1 { s1 with heap := h', toks := tk } := I2.kept hk
        refine ⟨.ref h'.objs.size, upd H1 h'.objs.size (.tup ((List.range n).map fun m => V.int (i + (m : Nat) * k))), I3.laid (t' := tk) (fun c o e => Heap.get?_push_of_some _ e) (Nat.le_refl _) (show ObjOk X.prog X.w _ _ _ (.tup _) from ⟨?_, acc.toList, vals_rg3 hi, ?_⟩), rfl, q _ (I3.hok.fresh (Nat.le_refl _))⟩
        · rw [List.length_map, List.length_range, sizeLine_eq]; omega
        · rw [Array.toArray_toList]; exact IsTup.new _ _
end
end Ck

namespace Ck
open PySem PySem.Spec PyProof.Rows L2
open PySem.W (AlikeAll minD readsAll_len iter_listW moved_old argBest_fold cmpIn_lt dataLe AllAlike EachIs each_mem list_sort_data)

/-! ### min of a list of data, by place -/
section
variable {prog : Program} {w : World} {A : Around} {E : Value → Shared → Prop} {s : Shared}
theorem min_list_ix {l : Addr} {vs : Array Value} {x : PyData} {xs : List PyData} {as : List Addr} {Q : Value → Shared → Prop} (hh : A.handled = none) (hl : s.heap.IsList l vs) (hr : ReadsAll s.heap vs.toList (x :: xs) as) (ha : AlikeAll (x :: xs)) (hu : A.units + 1 + PyData.depthAll (x :: xs) < cLine)
    (h : ∀ (i : Nat) v h' tk, vs[i]? = some v → (x :: xs).getD i .none = minD x xs → (∀ b o, s.heap.get? b = some o → h'.get? b = some o) → Q v { s with heap := h', toks := tk }) :
    wpAny (model prog w) A (call (.builtin "min") [.ref l]) Q E s := by
  have hn : vs.size = xs.length + 1 := readsAll_len hr
  refine call_min_walkH (iter_listW (A := A.in1) hh hl fun s₂ e W st hfp hw hk => ?_)
  refine ⟨_, _, _, _, _, _, _, s.heap, _, rfl, W, st, hfp, by omega, hw, hk, cmpIn_lt (A := A.in1) hr ha (by show A.units + 1 + _ < _; exact hu), fun v s' hP m => ?_⟩
  obtain ⟨h', tk, rfl, hk'⟩ := moved_old e rfl m
  have e1 : vs.size - 1 = xs.length := by omega
  have e2 := (argBest_fold PySem.W.dataLt PyData.none x xs xs.length (Nat.le_refl _)).2
  rw [List.take_length] at e2
  rw [e1] at hP
  exact h _ v h' tk hP (by unfold minD; rw [← e2]) hk'
end
section
variable {X : Cx}
def rMinD (K : PySem.W.Frag) : List V → Hp → VK → Prop := fun vs H Q => ∃ (a : Addr) (xs : List V) (d : PyData) (ds : List PyData), vs = [V.ref a] ∧ SqL K H a xs ∧ DpAll K H xs (d :: ds) ∧ AlikeAll (d :: ds) ∧ PyData.depthAll (d :: ds) ≤ 60 ∧
  ∀ (i : Nat) x, xs[i]? = some x → (d :: ds).getD i .none = minD d ds → Q x H
theorem cr_minD (hc : X.calm = true) (hu : X.A.units + 64 < cLine) : CallR X (.builtin "min") (rMinD X.K) := by
  intro pins s σ H vs us Q I r h
  obtain ⟨a, xs, d, ds, rfl, hs, hD, hal, hdp, q⟩ := h
  obtain ⟨its, rv, hl, _⟩ := I.list hs
  rw [Vals.ref1 r]
  obtain ⟨as, hr⟩ := Dp.readsAll I (d :: ds) xs its hD rv
  refine min_list_ix (vs := its.toArray) (I.ok.hd hc) hl.isList (by simpa using hr) hal (by omega) fun i v h' tk hv e hk => ?_
  have hv' : its[i]? = some v := by simpa using hv
  have hlt : i < its.length := (List.getElem?_eq_some_iff.mp hv').1
  have hx : i < xs.length := by rw [rv.length]; exact hlt
  obtain ⟨u, eu, ru⟩ := rv.get (List.getElem?_eq_getElem hx)
  rw [hv'] at eu
  cases eu
  exact ⟨xs[i], H, I.kept hk, ru, q i _ (List.getElem?_eq_getElem hx) e⟩
end

/-! ### sorted(x) where x is collected by a source -/
section
variable {prog : Program} {w : World} {A : Around} {E : Value → Shared → Prop} {s : Shared} {T : String} {r d : Addr} {n : Nat} {P : Nat → Value → Prop} {OK : Heap → Prop} {Q : Value → Shared → Prop}
theorem src_sorted (K : PySem.W.KdlSrc prog w T r d n P OK) (hh : A.handled = none) (hok : OK s.heap) (hn : n ≤ sizeLine)
    (h : ∀ (h' : Heap) (tk : Nat) (vs : List Value), (∀ b o, s.heap.get? b = some o → h'.get? b = some o) → vs.length = n → (∀ (j : Nat) (v : Value), vs[j]? = some v → P j v) →
      wpAny (model prog w) A.in1 (call (.builtin "list.sort") [.ref h'.objs.size]) (fun _ s' => Q (.ref h'.objs.size) s') E { s with heap := h'.push (seqObj "list" vs.toArray 0), toks := tk }) :
    wpAny (model prog w) A (call (.builtin "sorted") [.ref r]) Q E s := by
  refine Calls.call_function_entry kind_sorted plain_sorted entry_sorted (args_sorted1 _) ?_
  unfold Builtin.«sorted»
  refine wpAny_bind (m := checkCount "sorted" 1 1 _) (wpAny_pure ?_)
  refine wpAny_bind (PySem.W.kdu_collect (A := A.in1) K hh hok hn fun h' tk acc hk hacc => ?_)
  have hl : acc.toList.length = n := by rw [Array.length_toList]; exact hacc.1
  refine wpAny_bind (wpAny_newList ?_ (by rw [hl]; exact hn))
  have hg := h h' tk acc.toList hk hl (fun j v e => hacc.2 j v (by rw [← Array.getElem?_toList]; exact e))
  refine wpAny_bind (wpAny_holding (wpAny_mono hg (fun _ s' x => ?_) fun _ _ e => e))
  exact wpAny_pure ⟨_, rfl, x⟩
end

/-! ### sorted(d.keys()) -/
section
variable {X : Cx}
/-- the call, from the dict's raw entries on: items bs stand for the keys -/
theorem sortedKeys_core {pins : List (Addr × Obj)} {s : Shared} {σ : L2.St} {H : Hp} {Q : VK} {β : Type} {enc : β → PyData} {bs : List β} {R : Value → β → Prop} {v d : Addr} {es : Array DictEntry} {ep : Nat} {val : β → V} (hc : X.calm = true) (hu : X.A.units + 64 < cLine)
    (I : Inv X pins σ H s) (hv : PySem.W.KdlKeysView s.heap v d) (hd : s.heap.DictRaw d es ep) (hn : es.size ≤ sizeLine) (hbs : bs.length = es.size)
    (hR : ∀ (j : Nat) (b : β) (h : j < es.size), bs[j]? = some b → R es[j].key b) (hrel : ∀ v b, R v b → RelV (val b) v)
    (hrd : ∀ (h' : Heap), (∀ c o, s.heap.get? c = some o → h'.get? c = some o) → ∀ v b, b ∈ bs → R v b → ∃ as, Reads h' v (enc b) as ∧ ∀ D, s.heap.get? D = none → D ∉ as)
    (hal : AllAlike (bs.map enc)) (hso : PySem.W.Sortable (bs.map enc)) (hdp : ∀ b, b ∈ bs → (enc b).depth ≤ 50)
    (q : ∀ p, H p = none → Q (.ref p) (upd H p (.lst ((bs.mergeSort (dataLe false enc)).map val)))) :
    wpAny (model X.prog X.w) X.A (call (.builtin "sorted") [.ref v]) (EP X pins σ Q) X.xe s := by
  refine src_sorted (PySem.KdlSrc.rawKeys (r := v) (d := d) (es := es) (ep := ep)) (I.ok.hd hc) ⟨hv, hd⟩ hn fun h' tk vs hk hl hP => ?_
  have I1 : Inv X pins σ H { s with heap := h', toks := tk } := I.kept hk
  have each : ∀ (vs : List Value) (bs : List β), vs.length = bs.length → (∀ (j : Nat) v b, vs[j]? = some v → bs[j]? = some b → R v b) → EachIs R vs bs := by
    intro vs
    induction vs with
    | nil => intro bs hl _; cases bs with
      | nil => exact .nil
      | cons b r => cases hl
    | cons u us ih =>
      intro bs hl h
      cases bs with
      | nil => cases hl
      | cons b r => exact .cons (h 0 u b rfl rfl) (ih r (Nat.succ.inj hl) fun j v b e1 e2 => h (j + 1) v b e1 e2)
  have hE : EachIs R vs bs := each vs bs (by rw [hl, hbs]) fun j u b e1 e2 => by
    obtain ⟨hi, e⟩ := hP j u e1
    rw [e]
    exact hR j b hi e2
  have hob : (h'.push (seqObj "list" vs.toArray 0)).get? h'.objs.size = some (seqObj "list" vs.toArray 0) := Heap.get?_push_size _ rfl
  have hDn : s.heap.get? h'.objs.size = none := by
    cases e : s.heap.get? h'.objs.size with
    | none => rfl
    | some o => exact absurd (Heap.lt_size (hk _ _ e)) (Nat.lt_irrefl _)
  have er : EachIs (fun v b => ∃ as, Reads (Shared.heap { s with heap := h'.push (seqObj "list" vs.toArray 0), toks := tk }) v (enc b) as ∧ h'.objs.size ∉ as) vs bs := (each_mem hE).mono fun v b ⟨r, hb⟩ => by
    obtain ⟨as, rd, hn⟩ := hrd (h'.push (seqObj "list" vs.toArray 0)) (fun c o e => Heap.get?_push_of_some _ (hk c o e)) v b hb r
    exact ⟨as, rd, hn _ hDn⟩
  refine list_sort_data (A := X.A.in1) (s := { s with heap := h'.push (seqObj "list" vs.toArray 0), toks := tk }) hob hE er hal hso (by rw [hbs]; exact hn) (fun b hb => ?_) fun out hlen hout => ?_
  · have := hdp b hb
    show X.A.units + 1 + 1 + _ < _
    omega
  · obtain ⟨e', he'⟩ := PyProof.Rows.sortedHeap_at (vs := vs) (out := out.toArray) hob
    have vv : ∀ {out : List Value} {cs : List β}, EachIs R out cs → Vals (cs.map val) out := fun {out cs} e => by
      induction e with
      | nil => exact .nil
      | cons r _ ih => exact .cons (hrel _ _ r) ih
    have hlen2 : ((bs.mergeSort (dataLe false enc)).map val).length ≤ sizeLine := by
      rw [List.length_map, List.length_mergeSort, hbs]
      exact hn
    refine ⟨.ref h'.objs.size, upd H h'.objs.size (.lst ((bs.mergeSort (dataLe false enc)).map val)), I1.laid (t' := tk) (fun b u e => ?_) (Nat.le_refl _)
      (show ObjOk X.prog X.w _ _ _ (.lst ((bs.mergeSort (dataLe false enc)).map val)) from ⟨hlen2, out, e', vv hout, by simpa using he'⟩), rfl, q _ (I1.hok.fresh (Nat.le_refl _))⟩
    have hb : b < h'.objs.size := Heap.lt_size e
    rw [PyProof.Rows.sortedHeap_old (Nat.ne_of_lt hb) (by rw [size_push']; exact Nat.lt_succ_of_lt hb)]
    exact Heap.get?_push_of_some _ e
end
end Ck

namespace Ck
open PySem PySem.Spec PyProof.Rows L2
open PySem.W (AlikeAll minD readsAll_len iter_listW moved_old argBest_fold cmpIn_lt dataLe AllAlike EachIs each_mem list_sort_data dataLe_int dataLe_ii)

/-! ### d.keys() as a value -/
def keysO (p d : Addr) : HO := .ext fun h => PySem.W.KdlKeysView h p d
theorem keysO_ok {P : Program} {w : World} {H : Hp} {h : Heap} {p d : Addr} (x : PySem.W.KdlKeysView h p d) : ObjOk P w H h p (keysO p d) := by
  obtain ⟨o, ho, hc, hd⟩ := x
  exact ⟨⟨o, ho, hc, hd⟩, ⟨o, ho⟩, fun h1 h2 ⟨o', ho', hc', hd'⟩ k => ⟨o', k o' ho', hc', hd'⟩⟩
/-- what stands at a dict, raw -/
theorem dK_raw {pins : List (Addr × Obj)} {X : Cx} {σ : L2.St} {H : Hp} {s : Shared} {d : Addr} {kvs : List (Key × V)} (I : Inv X pins σ H s) (h : H d = some (.dK kvs)) :
    ∃ es ep, s.heap.DictRaw d es ep ∧ es.size = kvs.length ∧ kvs.length ≤ sizeLine ∧ (d == sysModules) = false ∧ ∀ (j : Nat) (k : Key) (hj : j < es.size), (kvs.map (·.1))[j]? = some k → keyIs k es[j].key = true := by
  obtain ⟨hz, hs, vs, kv, hdo⟩ := I.hok d _ h
  obtain ⟨es, ep, hr, he, hi⟩ := hdo.raw
  have lk : kvs.length = vs.length := Paired.length kv
  refine ⟨es, ep, hr, by omega, hz, hs, fun j k hj e => ?_⟩
  have hk : vs.map (·.1) = kvs.map (·.1) := kv.keys.symm
  rw [← hk, List.getElem?_map] at e
  cases q : vs[j]? with
  | none => rw [q] at e; cases e
  | some r =>
    rw [q] at e
    obtain ⟨k', v'⟩ := r
    have ek : k' = k := Option.some.inj e
    subst ek
    exact (hi j hj k' v' q).1
theorem dT_raw {pins : List (Addr × Obj)} {X : Cx} {σ : L2.St} {H : Hp} {s : Shared} {d : Addr} {kvs : List (List Key × V)} (I : Inv X pins σ H s) (h : H d = some (.dT kvs)) :
    ∃ es ep, s.heap.DictRaw d es ep ∧ es.size = kvs.length ∧ kvs.length ≤ sizeLine ∧ (d == sysModules) = false ∧ ∃ ts : List Addr, Paired (fun (t : Addr) (k : List Key) => H t = some (.tup (k.map kV))) ts (kvs.map (·.1)) ∧
      ∀ (j : Nat) (t : Addr) (hj : j < es.size), ts[j]? = some t → es[j].key = .ref t := by
  obtain ⟨hz, hs, xs, pr, o, es, ep, ho, hc, hd, he, hn⟩ := I.hok d _ h
  have l1 : kvs.length = xs.length := Paired.length pr
  have l2 : es.size = xs.length := by
    have := congrArg List.length he
    rw [List.length_map, Array.length_toList] at this
    exact this
  refine ⟨es, ep, ⟨o, ho, hc, hd⟩, by omega, hz, hs, xs.map (·.2.1), ?_, fun j t hj e => ?_⟩
  · clear he hn l1 l2 hz h
    induction pr with
    | nil => exact .nil
    | cons r _ ih => exact .cons r.2.1 ih
  · rw [List.getElem?_map] at e
    cases q : xs[j]? with
    | none => rw [q] at e; cases e
    | some r =>
      rw [q] at e
      have et : r.2.1 = t := Option.some.inj e
      have e2 : es.toList[j]? = (xs.map (entryOfKey (tupleKind (mixKind X.prog X.w))))[j]? := by rw [he]
      rw [List.getElem?_map, q, Array.getElem?_toList, Array.getElem?_eq_getElem hj] at e2
      have e3 := Option.some.inj e2
      rw [e3, ← et]
      rfl
section
variable {X : Cx} {e : Expr} {te : TE} {apos cpos : Pos}
def tKeys (te : TE) : TE := fun σ H Q => te σ H fun x H1 => ∃ d, x = .ref d ∧ ((∃ kvs, H1 d = some (.dK kvs)) ∨ ∃ kvs, H1 d = some (.dT kvs)) ∧ ∀ p, H1 p = none → Q (.ref p) (upd H1 p (keysO p d))
theorem pe_keys (he : PE X e te) (hbase : attributeBase e "keys" X.env (eval e X.env) = eval e X.env := by rfl) (hline : (apos.endLine == cpos.line) = true := by rfl) :
    PE X (.Call (.Attribute e "keys" apos) [] [] cpos) (tKeys te) := by
  refine ⟨fun pins s σ H Q I hq => ?_⟩
  refine wpAny_Call_method (T := "dict") (id := "dict.keys") hbase rfl hline F.plainAttrs_dict F.slot_dict_keys F.type_dict_keys (thn (he.run pins s σ H _ I hq) fun u s1 ⟨x, H1, I1, rx, d, ex, hd, q⟩ => ?_)
  subst ex
  obtain rfl : u = Value.ref d := rx
  obtain ⟨es, ep, hr, hs0⟩ : ∃ es ep, s1.heap.DictRaw d es ep ∧ (d == sysModules) = false := by
    rcases hd with ⟨kvs, h⟩ | ⟨kvs, h⟩
    · obtain ⟨es, ep, hr, _, _, hs, _⟩ := dK_raw I1 h
      exact ⟨es, ep, hr, hs⟩
    · obtain ⟨es, ep, hr, _, _, hs, _⟩ := dT_raw I1 h
      exact ⟨es, ep, hr, hs⟩
  obtain ⟨o, ho, hc, hdt⟩ := id hr
  refine ⟨hr.typeIs, fun a ea => ?_, ?_⟩
  · cases ea
    exact ⟨o, ho, hc.2.1⟩
  show wpAny _ _ (callWith cpos (.builtin "dict.keys") [.ref d] [] []) _ X.xe s1
  refine method_meetsIn F.slot_dict_keys F.entry_dict_keys rfl (PySem.evalArgs_none ⟨rfl, hr.typeIs, F.args_dict_keys_1 _, _, PySem.meets_dict_keys_raw d hs0, ⟨es, ep, hr⟩, ?_⟩)
  have hv : PySem.W.KdlKeysView (s1.heap.push { cls := .type "dict_keys", data := .fields #[.ref d] }) s1.heap.objs.size d := ⟨_, Heap.get?_push_size _ rfl, rfl, rfl⟩
  have I2 : Inv X pins σ (upd H1 s1.heap.objs.size (keysO s1.heap.objs.size d)) { s1 with heap := s1.heap.push { cls := .type "dict_keys", data := .fields #[.ref d] } } :=
    I1.laid (t' := s1.toks) (fun b ob q => Heap.get?_push_of_some _ q) (Nat.le_refl _) (keysO_ok hv)
  exact ⟨.ref _, _, I2, rfl, q _ (I1.hok.fresh (Nat.le_refl _))⟩
end
theorem AllAlike_ints (ks : List Int) : AllAlike (ks.map fun n : Int => PyData.int n) := PySem.W.AllAlike.of fun _ _ => by simp [PySem.W.alike]
theorem Sortable_ints (ks : List Int) : PySem.W.Sortable (ks.map fun n : Int => PyData.int n) := PySem.W.Sortable.others fun _ => ⟨fun e => PyData.noConfusion e, fun _ e => PyData.noConfusion e⟩
theorem AllAlike_pairs (bs : List ((Int × Int) × Addr)) : AllAlike (bs.map fun b => PyData.tuple [.int b.1.1, .int b.1.2]) := PySem.W.AllAlike.of fun _ _ => by simp [PySem.W.alike, PySem.W.alikeAll]
theorem Sortable_pairs (bs : List ((Int × Int) × Addr)) : PySem.W.Sortable (bs.map fun b => PyData.tuple [.int b.1.1, .int b.1.2]) := PySem.W.Sortable.tuples fun _ => ⟨_, _, rfl⟩
section
variable {X : Cx}
/-- sorted(d.keys()), the keys ints -/
def rSortedKI : List V → Hp → VK → Prop := fun vs H Q => ∃ (v d : Addr) (kvs : List (Key × V)) (ks : List Int), vs = [.ref v] ∧ H v = some (keysO v d) ∧ H d = some (.dK kvs) ∧ kvs.map (·.1) = ks.map Sum.inl ∧
  ∀ (ks' : List Int) (p : Addr), ks'.Perm ks → ks'.Pairwise (· ≤ ·) → H p = none → Q (.ref p) (upd H p (.lst (ks'.map V.int)))
theorem cr_sortedKI (hc : X.calm = true) (hu : X.A.units + 64 < cLine) : CallR X (.builtin "sorted") rSortedKI := by
  intro pins s σ H vs us Q I r h
  obtain ⟨v, d, kvs, ks, rfl, hv, hd, hks, q⟩ := h
  rw [Vals.ref1 r]
  obtain ⟨es, ep, hr, hn, hz, hs0, hk⟩ := dK_raw I hd
  have hV : PySem.W.KdlKeysView s.heap v d := (I.hok v _ hv).1
  have hl : ks.length = kvs.length := by
    have := congrArg List.length hks
    rw [List.length_map, List.length_map] at this
    exact this.symm
  refine sortedKeys_core (enc := fun n : Int => PyData.int n) (bs := ks) (R := fun v n => ∃ t, v = Value.int n t) (val := V.int) hc hu I hV hr (by omega) (by omega) (fun j b hj e => ?_) (fun v b h => h) (fun h' _ v b _ hb => ?_) (AllAlike_ints ks) (Sortable_ints ks) (fun b _ => Nat.zero_le _) fun p hp => ?_
  · have e1 : (kvs.map (·.1))[j]? = some (Sum.inl b) := by rw [hks, List.getElem?_map, e]; rfl
    rcases keyIs_shape (hk j _ hj e1) with ⟨i, t, ek, ev⟩ | ⟨z, t, ek, ev⟩
    · cases ek
      exact ⟨t, ev⟩
    · cases ek
  · obtain ⟨t, rfl⟩ := hb
    exact ⟨[], .int _ _, fun D _ => List.not_mem_nil⟩
  · refine q _ p (List.mergeSort_perm _ _) ?_ hp
    have e : dataLe false (fun n : Int => PyData.int n) = fun a b => decide (a ≤ b) := dataLe_int (fun n : Int => n)
    rw [e]
    have := List.pairwise_mergeSort (le := fun a b : Int => decide (a ≤ b)) (fun a b c h1 h2 => by simp only [decide_eq_true_eq] at *; omega) (fun a b => by simp only [Bool.or_eq_true, decide_eq_true_eq]; omega) ks
    exact this.imp fun h => of_decide_eq_true h
/-- pairs, ascending -/
def pLe (a b : Int × Int) : Prop := a.1 < b.1 ∨ (a.1 = b.1 ∧ a.2 ≤ b.2)
/-- sorted(d.keys()), the keys pairs of ints -/
def rSortedKP : List V → Hp → VK → Prop := fun vs H Q => ∃ (v d : Addr) (kvs : List (List Key × V)) (ks : List (Int × Int)), vs = [.ref v] ∧ H v = some (keysO v d) ∧ H d = some (.dT kvs) ∧ kvs.map (·.1) = ks.map (fun e => [Sum.inl e.1, Sum.inl e.2]) ∧
  ∀ (ks' : List (Int × Int)) (ts : List Addr) (p : Addr), ks'.Perm ks → ks'.Pairwise pLe → Paired (fun (t : Addr) (k : Int × Int) => H t = some (.tup [.int k.1, .int k.2])) ts ks' → H p = none → Q (.ref p) (upd H p (.lst (ts.map V.ref)))
theorem cr_sortedKP (hc : X.calm = true) (hu : X.A.units + 64 < cLine) : CallR X (.builtin "sorted") rSortedKP := by
  intro pins s σ H vs us Q I r h
  obtain ⟨v, d, kvs, ks, rfl, hv, hd, hks, q⟩ := h
  rw [Vals.ref1 r]
  obtain ⟨es, ep, hr, hn, hz, hs0, ts, pr, hk⟩ := dT_raw I hd
  have hV : PySem.W.KdlKeysView s.heap v d := (I.hok v _ hv).1
  rw [hks] at pr
  have hl : ks.length = kvs.length := by
    have := congrArg List.length hks
    rw [List.length_map, List.length_map] at this
    exact this.symm
  have lt : ts.length = ks.length := by rw [Paired.length pr, List.length_map]
  have pr2 : Paired (fun (t : Addr) (k : Int × Int) => H t = some (.tup [.int k.1, .int k.2])) ts ks := by
    clear hks hk hl lt hn hz q
    generalize hm : ks.map (fun e => ([Sum.inl e.1, Sum.inl e.2] : List Key)) = ms at pr
    induction pr generalizing ks with
    | nil => cases ks with
      | nil => exact .nil
      | cons _ _ => cases hm
    | cons r _ ih =>
      cases ks with
      | nil => cases hm
      | cons k ks =>
        rw [List.map_cons] at hm
        injection hm with h1 h2
        subst h1
        exact .cons r (ih ks h2)
  have atT : ∀ b ∈ ks.zip ts, H b.2 = some (.tup [.int b.1.1, .int b.1.2]) := by
    clear hks hk hl hn hz q pr
    induction pr2 with
    | nil => intro b hb; cases hb
    | cons r _ ih =>
      intro b hb
      rcases List.mem_cons.mp hb with e | hb
      · rw [e]; exact r
      · exact ih (by simpa using lt) b hb
  have lz : (ks.zip ts).length = ks.length := by rw [List.length_zip]; omega
  refine sortedKeys_core (enc := fun b : (Int × Int) × Addr => PyData.tuple [.int b.1.1, .int b.1.2]) (bs := ks.zip ts) (R := fun v b => v = Value.ref b.2) (val := fun b => V.ref b.2) hc hu I hV hr (by omega) (by omega) (fun j b hj e => ?_) (fun v b h => h) (fun h' hk' v b hb e => ?_) (AllAlike_pairs _) (Sortable_pairs _) (fun b _ => by simp [PyData.depth, PyData.depthAll]) fun p hp => ?_
  · have e2 : ts[j]? = some b.2 := by
      obtain ⟨k, t⟩ := b
      rw [List.getElem?_zip_eq_some] at e
      exact e.2
    exact hk j b.2 hj e2
  · subst e
    have ht := atT b hb
    obtain ⟨_, its, rv, hI⟩ := I.hok b.2 _ ht
    obtain ⟨o, ho, hcl, n, hdt⟩ := hI
    obtain ⟨t1, t2, eits⟩ := Vals.int2 rv
    rw [eits] at hdt
    refine ⟨[], .tuple (hk' _ _ ho) hcl hdt ?_, fun D _ => List.not_mem_nil⟩
    exact .cons (.int _ _) (.cons (.int _ _) .nil)
  · have e : dataLe false (fun b : (Int × Int) × Addr => PyData.tuple [.int b.1.1, .int b.1.2]) = fun p q => decide (p.1.1 < q.1.1 ∨ (p.1.1 = q.1.1 ∧ p.1.2 ≤ q.1.2)) := dataLe_ii (fun b : (Int × Int) × Addr => b.1.1) (fun b => b.1.2)
    rw [e]
    have srt := List.pairwise_mergeSort (le := fun p q : (Int × Int) × Addr => decide (p.1.1 < q.1.1 ∨ (p.1.1 = q.1.1 ∧ p.1.2 ≤ q.1.2))) (fun a b c h1 h2 => by simp only [decide_eq_true_eq] at *; omega) (fun a b => by simp only [Bool.or_eq_true, decide_eq_true_eq]; omega) (ks.zip ts)
    have prm := List.mergeSort_perm (ks.zip ts) (fun p q : (Int × Int) × Addr => decide (p.1.1 < q.1.1 ∨ (p.1.1 = q.1.1 ∧ p.1.2 ≤ q.1.2)))
    generalize (ks.zip ts).mergeSort (fun p q : (Int × Int) × Addr => decide (p.1.1 < q.1.1 ∨ (p.1.1 = q.1.1 ∧ p.1.2 ≤ q.1.2))) = bs' at srt prm ⊢
    have e1 : bs'.map (fun b => V.ref b.2) = (bs'.map (·.2)).map V.ref := by rw [List.map_map]; rfl
    rw [e1]
    refine q (bs'.map (·.1)) (bs'.map (·.2)) p ?_ ?_ ?_ hp
    · have := prm.map (·.1)
      rw [List.map_fst_zip (by omega)] at this
      exact this
    · rw [List.pairwise_map]
      exact srt.imp fun h => of_decide_eq_true h
    · have all : ∀ b ∈ bs', H b.2 = some (.tup [.int b.1.1, .int b.1.2]) := fun b hb => atT b (prm.mem_iff.mp hb)
      clear e1 srt prm
      induction bs' with
      | nil => exact .nil
      | cons b r ih => exact .cons (all b List.mem_cons_self) (ih fun c hc => all c (List.mem_cons_of_mem _ hc))
end
end Ck

namespace PySem
open Sem (wp)
open AutoSeq1 (wpAny_loadPart')
theorem ck_meets_enumerate_newT (l : Addr) (items : Array Value) (n : Nat) (dct : Option Addr) (sl : Array (Option Value)) :
    Meets (Builtin.«enumerate.__new__» ⟨[.type "enumerate", .ref l], []⟩) (fun _ R s => s.heap.get? l = some { cls := .type "tuple", dict := dct, data := .seq items n, slots := sl } ∧
      R (.ok (.ret (.ref (s.heap.push { cls := .type "tuple_iterator", data := .fields #[.ref l, .int 0 0] }).objs.size)))
        { s with heap := (s.heap.push { cls := .type "tuple_iterator", data := .fields #[.ref l, .int 0 0] }).push { cls := .type "enumerate", data := .fields #[.none, .bool false, .ref s.heap.objs.size, rawInt 0, .none, .none] } }) :=
  .of_wp fun prog w A R s h => by
    obtain ⟨hp, g, d, tk, os⟩ := s; obtain ⟨hl, h⟩ := h
    have hsub := sub_enumerate
    have hL : Heap.IsTuple (Shared.heap ⟨hp, g, d, tk, os⟩) l items := ⟨_, hl, rfl, n, rfl⟩
    wp_walk using wpAny_loadPart' hl
    refine wpAny_stack_any fun st => wpAny_pure ?_
    split
    · rename_i c _ _ _ _ _
      cases (c == Value.type "enumerate")
      · wp_walk using wpAny_loadPart' hl, wpAny_pyIter_tuple hL
        exact ⟨_, rfl, h⟩
      · wp_walk using wpAny_loadPart' hl, wpAny_pyIter_tuple hL
        exact ⟨_, rfl, h⟩
    · wp_walk using wpAny_loadPart' hl, wpAny_pyIter_tuple hL
      exact ⟨_, rfl, h⟩
section
variable {prog : Program} {w : World} {A : Around} {E : Value → Shared → Prop} {s : Shared}
theorem ck_call_enumerate_tuple {l : Addr} {items : Array Value} {Q : Value → Shared → Prop} (hL : s.heap.IsTuple l items)
    (h : ∀ h', IsEnum h' (s.heap.objs.size + 1) s.heap.objs.size 0 .none → h'.IsTupleIter s.heap.objs.size l 0 → h'.objs.size = s.heap.objs.size + 2 →
      (∀ b o, s.heap.get? b = some o → h'.get? b = some o) → Q (.ref (s.heap.objs.size + 1)) { s with heap := h' }) :
    wpAny (model prog w) A (call (.type "enumerate") [.ref l]) Q E s := by
  obtain ⟨⟨c, dct, dt, sl⟩, hl, hc, n, hd⟩ := hL
  replace hc : c = .type "tuple" := hc
  replace hd : dt = .seq items n := hd
  subst hc hd
  refine callType_new F.called_enumerate (by decide) (F.typeCall_enumerate_1 _) (F.newCall_enumerate_1 _) (fun obj => F.args_object_init_2 obj _) F.entry_enumerate_new
    (ck_meets_enumerate_newT l items n dct sl) ⟨hl, ?_⟩
  have hz : (s.heap.push { cls := .type "tuple_iterator", data := .fields #[.ref l, .int 0 0] }).objs.size = s.heap.objs.size + 1 := Heap.size_push ..
  show _ ∧ _
  rw [hz]
  have he : IsEnum ((s.heap.push { cls := .type "tuple_iterator", data := .fields #[.ref l, .int 0 0] }).push
      { cls := .type "enumerate", data := .fields #[.none, .bool false, .ref s.heap.objs.size, rawInt 0, .none, .none] }) (s.heap.objs.size + 1) s.heap.objs.size 0 .none := by
    have := Heap.get?_push_size (s.heap.push { cls := .type "tuple_iterator", data := .fields #[.ref l, .int 0 0] })
      (o := { cls := .type "enumerate", data := .fields #[.none, .bool false, .ref s.heap.objs.size, rawInt 0, .none, .none] }) rfl
    rw [hz] at this; exact this
  refine ⟨⟨_, he, rfl⟩, h _ he ⟨_, Heap.get?_push_of_some _ (Heap.get?_push_size _ rfl), rfl, rfl⟩ (by rw [Heap.size_push, hz]) fun b o x => Heap.get?_push_of_some _ (Heap.get?_push_of_some _ x)⟩
end
end PySem

namespace Ck
open PySem PySem.Spec PyProof.Rows L2

/-! ### for a, b in enumerate(t), t a tuple -/
def IteT (K : PySem.W.Frag) (a : Addr) : It :=
  ⟨fun i H => ∃ (xs : List V) (x : V), SqT K H a xs ∧ xs[i]? = some x, fun i H v H' => ∃ T x, v = .ref T ∧ H T = none ∧ H' = upd H T (.tup [.int (i : Nat), x]) ∧ ∀ xs, SqT K H a xs → xs[i]? = some x, fun i H => ∃ xs : List V, SqT K H a xs ∧ xs.length = i⟩
theorem turn_enumT {P : Program} {w : World} {K : PySem.W.Frag} {elts : List Expr} {kk : Nat} {tpos : Pos} (a e it : Addr) :
    Turn P w K (.Tuple elts kk tpos) (IteT K a) [e, it] e (fun i h => (∃ old, IsEnum h e it ((i : Nat) : Int) old) ∧ h.IsTupleIter it a i ∧ e ≠ it) where
  mem := by simp
  obj := fun i h st b hb => by
    obtain ⟨⟨old, he⟩, ⟨o, ho, hc, hd⟩, _⟩ := st
    have e' : b = e ∨ b = it := by simpa using hb
    rcases e' with z | z
    · rw [z]; exact ⟨_, he, fun v q => nomatch q⟩
    · rw [z]; exact ⟨o, ho, fun v q => by rw [hd] at q; cases q⟩
  keep := fun i h h' st k => let ⟨⟨old, he⟩, hi, hne⟩ := st; ⟨⟨old, k e (by simp) _ he⟩, hi.at fun o q => k it (by simp) o q, hne⟩
  item := by
    intro X hP hw hK hc i pins s σ H E I hf st hg
    subst hP hw hK
    obtain ⟨⟨old, he⟩, hit, hne⟩ := st
    obtain ⟨xs, x, hq, hx⟩ := hg
    obtain ⟨its, rv, p, hz⟩ := I.tuple hq
    obtain ⟨u, hu, ru⟩ := rv.get hx
    have hel : e < s.heap.objs.size := Heap.lt_size he
    have hil : it < s.heap.objs.size := by obtain ⟨_, q, _⟩ := hit; exact Heap.lt_size q
    have hei : a ≠ it := by
      rintro rfl
      obtain ⟨o1, q1, c1, _⟩ := hit
      obtain ⟨o2, q2, c2, _⟩ := p
      rw [q1] at q2; cases q2
      rw [c1] at c2
      injection c2 with c2
      exact absurd c2 (by decide)
    have hea : e ≠ a := by
      rintro rfl
      obtain ⟨o2, q2, c2, _⟩ := p
      have he2 : s.heap.get? e = some _ := he
      rw [he2] at q2; cases q2
      injection c2 with c2
      exact absurd c2 (by decide)
    refine wpAny_pyNext_enum_itemD (Draws.tuple (A := X.A.in1) (I.ok.hd hc) it a hei its.toArray) he ⟨hit, p⟩ (by simpa using (List.getElem?_eq_some_iff.mp hu).1) hne (by simp [hne, hea]) fun y h' tk hy ho hst' hT hsz hk => ?_
    have ey : y = u := by
      have : its[i]? = some y := by simpa using hy
      rw [hu] at this
      exact (Option.some.inj this).symm
    subst ey
    refine ⟨_, rfl, wpAny_letOwnedTupleGo_enum (s := { s with heap := h', toks := tk + 1 }) ho fun h'' he' sb => ?_⟩
    have hT2 : h''.get? s.heap.objs.size = some { cls := .type "tuple", data := .seq #[.int i tk, y] } := (sb.2 _ (Nat.ne_of_gt hel)).trans hT
    have new : ObjOk X.prog X.w (upd H s.heap.objs.size (.tup [.int (i : Nat), x])) h'' s.heap.objs.size (.tup [.int (i : Nat), x]) :=
      ⟨by show 2 ≤ sizeLine; decide, [.int i tk, y], .cons ⟨_, rfl⟩ (.cons ru .nil), ⟨_, hT2, rfl, _, rfl⟩⟩
    have I1 : Inv X pins σ (upd H s.heap.objs.size (.tup [.int (i : Nat), x])) { s with heap := h'', toks := tk + 1 } :=
      I.turnedNew (ch := [e, it]) (fun b ob hb q => (sb.2 b (fun z => hb (by simp [z]))).trans (hk b ob (fun z => hb (by simp [z])) (fun z => hb (by simp [z])) q)) hf (Nat.le_refl _) new
    refine ⟨.ref s.heap.objs.size, _, I1, rfl, ⟨_, x, rfl, I.hok.fresh (Nat.le_refl _), rfl, fun ys hy => by rw [I.tuple_inj hy hq]; exact hx⟩, ⟨⟨y, ?_⟩, hst'.1.at fun o q => (sb.2 it (Ne.symm hne)).trans q, hne⟩, fun b hb => ?_⟩
    · have e1 : ((i + 1 : Nat) : Int) = (i : Int) + 1 := by omega
      rw [e1]; exact he'
    · have hb' : b < s.heap.objs.size := by
        have e' : b = e ∨ b = it := by simpa using hb
        rcases e' with z | z
        · rw [z]; exact hel
        · rw [z]; exact hil
      rw [upd_ne (Nat.ne_of_lt hb')]
      exact (hf b hb).1
  done := by
    intro X hP hw hK hc i pins s σ H E I hf st hg
    subst hP hw hK
    obtain ⟨⟨old, he⟩, hit, hne⟩ := st
    obtain ⟨xs, hq, hx⟩ := hg
    obtain ⟨its, rv, p, hz⟩ := I.tuple hq
    obtain ⟨f0, f1, f2, f3, f4, f5⟩ := hf it (by simp)
    have hl := rv.length
    have hei : a ≠ it := by
      rintro rfl
      obtain ⟨o1, q1, c1, _⟩ := hit
      obtain ⟨o2, q2, c2, _⟩ := p
      rw [q1] at q2; cases q2
      rw [c1] at c2
      injection c2 with c2
      exact absurd c2 (by decide)
    have en : its.toArray.size = i := by simp; omega
    have hst : s.heap.IsTupleIter it a its.toArray.size ∧ s.heap.IsTuple a its.toArray := by rw [en]; exact ⟨hit, p⟩
    exact wpAny_pyNext_enum_endD (Draws.tuple (A := X.A.in1) (I.ok.hd hc) it a hei its.toArray) he hst fun h' eb => ⟨rfl, I.turned (t' := s.toks) (fun b o hb q => eb b o hb q) f0 f1 f3 f4 f5⟩
  self := fun A i s Q E st h => let ⟨⟨_, he⟩, _⟩ := st; wpAny_pyIter_enum he h
def iEnumT (K : PySem.W.Frag) (ta : TA) : TI := fun σ H R => ta σ H fun vs H1 => ∃ a xs, vs = [.ref a] ∧ SqT K H1 a xs ∧ R (IteT K a) H1
theorem pi_enumT {X : Cx} {e : Expr} {ta : TA} {p pos tpos : Pos} {elts : List Expr} {kk : Nat} (hg : Gl X "enumerate") (hm : X.mg "enumerate" = none) (ha : PA X [e] ta) (hs : starEach [e] X.env = [(false, eval e X.env)] := by rfl) :
    PI X (.Tuple elts kk tpos) (.Call (.Name "enumerate" p) [e] [] pos) (iEnumT X.K ta) := by
  refine ⟨fun pins s σ H R I h => ?_⟩
  refine Call_ (ld_blt I hg hm boot_enumerate (PyProof.Rows.callWith_type1 (thn (ha.run pos pins s σ H _ I h) fun us s1 ⟨vs, H1, I1, r1, q1⟩ => ?_) hs rfl))
  obtain ⟨a, xs, ex, hq, q⟩ := q1
  subst ex
  cases r1 with
  | cons r rr =>
    cases rr
    cases r
    obtain ⟨its, rv, p', hz⟩ := I1.tuple hq
    refine ck_call_enumerate_tuple p' fun h' he hit hsz hk => wpAny_pyIter_enum he ?_
    have I2 : Inv X pins σ H1 { s1 with heap := h' } := I1.kept (t' := s1.toks) hk
    refine ⟨s1.heap.objs.size + 1, [s1.heap.objs.size + 1, s1.heap.objs.size], _, _, H1, rfl, I2, turn_enumT a (s1.heap.objs.size + 1) s1.heap.objs.size, ⟨⟨.none, he⟩, hit, Nat.succ_ne_self _⟩, fun b hb => ?_, q⟩
    have e' : b = s1.heap.objs.size + 1 ∨ b = s1.heap.objs.size := by simpa using hb
    have hle : s1.heap.objs.size ≤ b := by
      rcases e' with z | z
      · rw [z]; exact Nat.le_add_right _ _
      · rw [z]; exact Nat.le_refl _
    exact I1.fpOk hle (I1.hok.fresh hle)
theorem walk_enumT {K : PySem.W.Frag} {a : Addr} {xs : List V} : Walk (IteT K a) xs.length (fun H => SqT K H a xs) (YPair (fun i => some (.int (i : Nat))) (fun i => xs[i]?)) := by
  refine ⟨fun i _ hi q => ⟨xs, xs[i], q, by simp [hi]⟩, fun _ q => ⟨xs, q, rfl⟩, fun i H v H' _ q y => ?_⟩
  obtain ⟨T, x, h1, h2, h3, h4⟩ := y
  exact ⟨T, .int (i : Nat), x, h1, h2, h3, rfl, h4 xs q⟩
end Ck

namespace Ck
open PySem PySem.Spec PyProof.Rows L2
/-! ### the text by places -/
def top (i : Nat) : Stmt := PySem.Challenge.pw_cointakes_k89_across_counts_of_layings.main.body.getD i (.Pass ⟨0, 0, 0, 0⟩)
abbrev s_is_in : Stmt := top 7
abbrev s_is_edge : Stmt := top 10
abbrev s_need_web : Stmt := top 11
abbrev s_need_full : Stmt := top 12
abbrev s_need_both : Stmt := top 13
abbrev s_neighbours_in : Stmt := top 14
abbrev s_heads_in : Stmt := top 15
abbrev s_taken_in : Stmt := top 16
abbrev s_count_in : Stmt := top 18
abbrev s_order_count : Stmt := top 19
abbrev s_full_layings : Stmt := top 21
abbrev s_clearable_in : Stmt := top 22
abbrev s_laying_count : Stmt := top 23
abbrev s_is_even : Stmt := top 24
abbrev s_counts_in : Stmt := top 26
abbrev s_layings_by_count : Stmt := top 27
abbrev s_most_in : Stmt := top 28
abbrev s_most_orders : Stmt := top 29
abbrev s_heads_by_count : Stmt := top 30
abbrev s_falls_in : Stmt := top 34
abbrev s_row_of_falls : Stmt := top 35
abbrev s_next_counts : Stmt := top 36
abbrev s_count_of : Stmt := top 37
abbrev s_chosen : Stmt := top 38
abbrev s_greatest_row : Stmt := top 39
abbrev s_rows_by_count : Stmt := top 40
abbrev s_need_many : Stmt := top 42
abbrev s_orders_by_falls : Stmt := top 43
abbrev s_rows_by_falls : Stmt := top 44
abbrev s_law_taken : Stmt := top 46
abbrev s_law_order : Stmt := top 47
abbrev s_law_web : Stmt := top 48
abbrev s_law : Stmt := top 49
abbrev FnP (K : PySem.W.Frag) (x : Str) (st : Stmt) (f : Addr) (fd : FuncData) : Prop := FunD K x x (defArgs st) (defBody st) (defScope st) [] [] f fd
/-- a def of the top, and its name -/
def Has (K : PySem.W.Frag) (mg : Str → Option Value) (x : Str) (st : Stmt) : Prop := ∃ f fd, FnP K x st f fd ∧ mg x = some (.ref f)
/-- the built-ins' names are free, the constants stand -/
structure Tx (mg : Str → Option Value) : Prop where
  isi_ : mg "isinstance" = none
  len_ : mg "len" = none
  enum_ : mg "enumerate" = none
  sorted_ : mg "sorted" = none
  list_ : mg "list" = none
  tuple_ : mg "tuple" = none
  sum_ : mg "sum" = none
  range_ : mg "range" = none
  min_ : mg "min" = none
  max_ : mg "max" = none
  int_ : mg "int" = none
  set_ : mg "set" = none
  bool_ : mg "bool" = none
  mp : ∃ t, mg "MOST_PLACES" = some (.int 9 t)
  mr : ∃ t, mg "MOST_ROW" = some (.int 40 t)
  ml : ∃ t, mg "MOST_LISTED" = some (.int 9 t)
/-- all the defs -/
structure Defs (K : PySem.W.Frag) (mg : Str → Option Value) : Prop where
  d_is_in : Has K mg "is_in" s_is_in
  d_is_edge : Has K mg "is_edge" s_is_edge
  d_need_web : Has K mg "need_web" s_need_web
  d_need_full : Has K mg "need_full" s_need_full
  d_need_both : Has K mg "need_both" s_need_both
  d_neighbours_in : Has K mg "neighbours_in" s_neighbours_in
  d_heads_in : Has K mg "heads_in" s_heads_in
  d_taken_in : Has K mg "taken_in" s_taken_in
  d_count_in : Has K mg "count_in" s_count_in
  d_order_count : Has K mg "order_count" s_order_count
  d_full_layings : Has K mg "full_layings" s_full_layings
  d_clearable_in : Has K mg "clearable_in" s_clearable_in
  d_laying_count : Has K mg "laying_count" s_laying_count
  d_is_even : Has K mg "is_even" s_is_even
  d_counts_in : Has K mg "counts_in" s_counts_in
  d_layings_by_count : Has K mg "layings_by_count" s_layings_by_count
  d_most_in : Has K mg "most_in" s_most_in
  d_most_orders : Has K mg "most_orders" s_most_orders
  d_heads_by_count : Has K mg "heads_by_count" s_heads_by_count
  d_falls_in : Has K mg "falls_in" s_falls_in
  d_row_of_falls : Has K mg "row_of_falls" s_row_of_falls
  d_next_counts : Has K mg "next_counts" s_next_counts
  d_count_of : Has K mg "count_of" s_count_of
  d_chosen : Has K mg "chosen" s_chosen
  d_greatest_row : Has K mg "greatest_row" s_greatest_row
  d_rows_by_count : Has K mg "rows_by_count" s_rows_by_count
  d_need_many : Has K mg "need_many" s_need_many
  d_orders_by_falls : Has K mg "orders_by_falls" s_orders_by_falls
  d_rows_by_falls : Has K mg "rows_by_falls" s_rows_by_falls
  d_law_taken : Has K mg "_law_taken" s_law_taken
  d_law_order : Has K mg "_law_order" s_law_order
  d_law_web : Has K mg "_law_web" s_law_web
  d_law : Has K mg "law" s_law
section
variable {P : Program} {w : World} {K : PySem.W.Frag} {mg : Str → Option Value} {base : Heap}
theorem cl_of {x : Str} {st : Stmt} {N ps : List Str} {k : Nat} {sp : Sp} (hF : Has K mg x st) (S : FnScope N ps (defScope st)) (len : ∀ vs H Q E, sp vs H Q E → vs.length = ps.length)
    (hb : ∀ (kV doc pm : Value) (an : Option Addr) (cdv ct : Value) (us : List Value), us.length = ps.length → bindArgs (PySem.W.fnOf x x (defArgs st) (defBody st) (defScope st) .none kV doc pm an cdv ct) ⟨us, []⟩ = pure (ps.zip us))
    (hbody : ∀ (f : Addr) (cdv : Value) (A : Around) (outer : List Env) (s : Shared) (H : Hp) (vs : List V) (Q : VK) (E : XK), Room k (A.deeper (envOfC x (defScope st) s.heap.objs.size f cdv)) → sp vs H Q E →
      ∃ t, PSs (cxOf CX0 P w K mg base N x (defScope st) f cdv A outer s H E).nox (defBody st) t ∧ t { nx := fun _ H' => Q .non H', rt := Q } (start N vs) H) : Cl P w K mg base (k + 1) x sp := by
  obtain ⟨f, fd, F, hm⟩ := hF
  exact ⟨f, fd, ps, F.ok S len fun cdv A outer s H vs Q E hr h => let ⟨t, a, b⟩ := hbody f cdv A outer s H vs Q E hr h; ⟨t, a.nox, b⟩, hm, F.kp, F.bindsN hb⟩
theorem Cl.mono {j k : Nat} {x : Str} {sp : Sp} (c : Cl P w K mg base j x sp) (h : j ≤ k) : Cl P w K mg base k x sp := by
  obtain ⟨f, fd, ps, F, a, b, d⟩ := c.ex
  exact ⟨f, fd, ps, F.mono h, a, b, d⟩
end
section
variable {X : Cx}
/-- a module's int constant -/
theorem pe_gi {x : Str} {n : Int} {pos : Pos} (h : ∃ t, X.mg x = some (.int n t)) (hg : Gl X x := by rfl) (hdb : (x == ("__debug__" : Str)) = false := by decide) : PE X (.Name x pos) (tC (.int n)) := by
  obtain ⟨t, ht⟩ := h
  exact pe_glob (v := V.int n) (hd := hdb) hg ht ⟨t, rfl⟩
end
def rLenK (K : PySem.W.Frag) : List V → Hp → VK → Prop := fun xs H Q => ∃ p ys, xs = [.ref p] ∧ (SqL K H p ys ∨ SqT K H p ys) ∧ Q (.int ys.length) H
/-! ### heaps -/
theorem same_new1 {H : Hp} {p : Addr} {o : HO} (h : H p = none) : Same H (upd H p o) := fun b x e => by
  rw [upd_ne (ne_of_none e h)]
  exact e
theorem same_new {H0 H : Hp} {p : Addr} {o : HO} (s : Same H0 H) (h : H p = none) : Same H0 (upd H p o) := s.trans (same_new1 h)
end Ck

namespace Ck
open PySem PySem.Spec PyProof.Rows L2
section
variable {P : Program} {w : World} {K : PySem.W.Frag} {mg : Str → Option Value} {base : Heap}

/-! ### is_in -/
def inB (v lo hi : Int) : Bool := decide (lo ≤ v) && decide (v ≤ hi)
def spIsIn : Sp := fun vs H Q _ => ∃ v lo hi : Int, vs = [.int v, .int lo, .int hi] ∧ Q (.bl (inB v lo hi)) H
theorem sc_is_in : FnScope ["value", "least", "most"] ["value", "least", "most"] (defScope s_is_in) := ⟨rfl, rfl, rfl, by decide +kernel, rfl, by decide +kernel, by decide +kernel⟩
theorem kit_ii : PySem.W.kitOne K (.type "int") (.type "int") = some true := kit_ty (by decide +kernel)
theorem kit_ib : PySem.W.kitOne K (.type "int") (.type "bool") = some false := kit_ty (by decide +kernel)
theorem kit_tt : PySem.W.kitOne K (.type "tuple") (.type "tuple") = some true := kit_ty (by decide +kernel)
theorem ok_is_in (T : Tx mg) (hF : Has K mg "is_in" s_is_in) : Cl P w K mg base 1 "is_in" spIsIn := by
  refine cl_of hF sc_is_in (fun vs H Q E h => by obtain ⟨v, lo, hi, rfl, _⟩ := h; rfl) (fun _ _ _ _ _ _ us hl => match us, hl with | [_, _, _], _ => rfl) fun f cdv A outer s H vs Q E hr h => ?_
  obtain ⟨v, lo, hi, rfl, q⟩ := h
  refine ⟨_, pss_one (ps_ret (pe_and (pe_callB call_isi (by rfl) T.isi_ boot_isinstance (pa_cons (pv 0) (pa_cons (pe_bltn (v := .ty "int") (by rfl) T.int_ boot_int rfl) pa_nil)))
    (pe_and (pe_not (pe_callB call_isi (by rfl) T.isi_ boot_isinstance (pa_cons (pv 0) (pa_cons (pe_bltn (v := .ty "bool") (by rfl) T.bool_ boot_bool rfl) pa_nil))))
      (pe_one (pe_chain op_le op_le (pv 1) (pv 0) (pv 2)))))), ?_⟩
  refine ⟨_, rfl, .int v, .ty "int", _, _, true, rfl, .ty _, .base (.int v), kit_ii, true, rfl, iteT ?_⟩
  refine ⟨_, rfl, .int v, .ty "bool", _, _, false, rfl, .ty _, .base (.int v), kit_ib, false, rfl, true, rfl, iteT ?_⟩
  refine ⟨_, rfl, _, rfl, lo, v, rfl, rfl, _, rfl, ?_⟩
  refine ite2 (fun c => ?_) (fun c => ?_)
  · refine ⟨_, rfl, v, hi, rfl, rfl, ?_⟩
    have e : inB v lo hi = decide (v ≤ hi) := by unfold inB; rw [c, Bool.true_and]
    rw [e] at q
    exact q
  · have e : inB v lo hi = false := by unfold inB; rw [Bool.eq_false_iff.mpr c, Bool.false_and]
    rw [e] at q
    exact q

/-! ### is_edge -/
def edgeB (n a b : Int) : Bool := inB a 0 (n - 1) && inB b (a + 1) (n - 1)
def spIsEdge : Sp := fun vs H Q _ => ∃ (t : Addr) (a b n : Int), vs = [.ref t, .int n] ∧ H t = some (.tup [.int a, .int b]) ∧ Q (.bl (edgeB n a b)) H
theorem sc_is_edge : FnScope ["value", "many"] ["value", "many"] (defScope s_is_edge) := ⟨rfl, rfl, rfl, by decide +kernel, rfl, by decide +kernel, by decide +kernel⟩
theorem ok_is_edge (T : Tx mg) (hF : Has K mg "is_edge" s_is_edge) (G : Cl P w K mg base 1 "is_in" spIsIn) : Cl P w K mg base 2 "is_edge" spIsEdge := by
  refine cl_of hF sc_is_edge (fun vs H Q E h => by obtain ⟨t, a, b, n, rfl, _⟩ := h; rfl) (fun _ _ _ _ _ _ us hl => match us, hl with | [_, _], _ => rfl) fun f cdv A outer s H vs Q E hr h => ?_
  obtain ⟨t, a, b, n, rfl, ht, q⟩ := h
  refine ⟨_, pss_cons (ps_if (PW.pt (pw_or (pt_not (pt_val (pe_callB call_isi (by rfl) T.isi_ boot_isinstance (pa_cons (pv 0) (pa_cons (pe_bltn (v := .ty "tuple") (by rfl) T.tuple_ boot_tuple rfl) pa_nil)))))
      (pw_or1 (pt_cmpR op_ne (pe_callB call_len_seq (by rfl) T.len_ PySem.boot_len (pa_cons (pv 0) pa_nil)) pe_int (nomark _))))) (pss_one (ps_ret pe_bl)) pss_nil)
    (pss_one (ps_ret (pe_and (pc hr G (by decide) (by rfl) (pa_cons (pe_ix ix_tup (pv 0) pe_int (fun _ _ => rfl)) (pa_cons pe_int (pa_cons (pe_op op_sub (pv 1) pe_int) pa_nil))))
      (pe_one (pc hr G (by decide) (by rfl) (pa_cons (pe_ix ix_tup (pv 0) pe_int (fun _ _ => rfl)) (pa_cons (pe_op op_add (pe_ix ix_tup (pv 0) pe_int (fun _ _ => rfl)) pe_int) (pa_cons (pe_op op_sub (pv 1) pe_int) pa_nil)))))))), ?_⟩
  have hT : SqT K H t [.int a, .int b] := SqT.of ht
  refine ⟨_, rfl, .ref t, .ty "tuple", _, _, true, rfl, .ty _, .base (.tup ht), kit_tt, true, rfl, iteF ?_⟩
  refine ⟨_, rfl, t, _, rfl, .inr hT, rfl, _, rfl, iteF ?_⟩
  refine ⟨_, rfl, t, _, 0, .int a, rfl, rfl, hT, rfl, _, rfl, n, 1, rfl, rfl, a, 0, n - 1, rfl, _, rfl, ?_⟩
  refine ite2 (fun c => ?_) (fun c => ?_)
  · refine ⟨_, rfl, t, _, 1, .int b, rfl, rfl, hT, rfl, _, rfl, t, _, 0, .int a, rfl, rfl, hT, rfl, a, 1, rfl, rfl, _, rfl, n, 1, rfl, rfl, b, a + 1, n - 1, rfl, ?_⟩
    have e : edgeB n a b = inB b (a + 1) (n - 1) := by unfold edgeB; rw [c, Bool.true_and]
    rw [e] at q
    exact q
  · have e : edgeB n a b = false := by unfold edgeB; rw [Bool.eq_false_iff.mpr c, Bool.false_and]
    rw [e] at q
    exact q
end
end Ck

namespace Ck
open PySem PySem.Spec PyProof.Rows L2
/-! ### webs -/
def EdgeAt (H : Hp) (t : Addr) (e : Nat × Nat) : Prop := H t = some (.tup [.int e.1, .int e.2])
def WebAt (H : Hp) (a : Addr) (n : Nat) (es : List (Nat × Nat)) : Prop := ∃ (b : Addr) (ts : List Addr), H a = some (.tup [.int n, .ref b]) ∧ H b = some (.tup (ts.map V.ref)) ∧ Paired (EdgeAt H) ts es
def eLt (a b : Nat × Nat) : Prop := a.1 < b.1 ∨ (a.1 = b.1 ∧ a.2 < b.2)
structure GoodWeb (n : Nat) (es : List (Nat × Nat)) : Prop where
  pos : 1 ≤ n
  le : n ≤ 6
  edge : ∀ e ∈ es, e.1 < e.2 ∧ e.2 < n
  asc : es.Pairwise eLt
  few : es.length ≤ 50
theorem Paired.imp {α β : Type} {F G : α → β → Prop} (h : ∀ a b, F a b → G a b) : ∀ {xs : List α} {ys : List β}, Paired F xs ys → Paired G xs ys
  | _, _, .nil => .nil
  | _, _, .cons r t => .cons (h _ _ r) (Paired.imp h t)
theorem Paired.getR {α β : Type} {F : α → β → Prop} : ∀ {xs : List α} {ys : List β}, Paired F xs ys → ∀ {i : Nat} {y : β}, ys[i]? = some y → ∃ x, xs[i]? = some x ∧ F x y
  | _, _, .nil, i, y, h => by cases h
  | _, _, .cons r t, 0, y, h => by
    have e := Option.some.inj h
    subst e
    exact ⟨_, rfl, r⟩
  | _, _, .cons r t, i + 1, y, h => Paired.getR t h
theorem Paired.snoc {α β : Type} {F : α → β → Prop} {x : α} {y : β} (r : F x y) : ∀ {xs : List α} {ys : List β}, Paired F xs ys → Paired F (xs ++ [x]) (ys ++ [y])
  | _, _, .nil => .cons r .nil
  | _, _, .cons q t => .cons q (Paired.snoc r t)
theorem WebAt.same {H H' : Hp} {a : Addr} {n : Nat} {es : List (Nat × Nat)} (s : Same H H') (h : WebAt H a n es) : WebAt H' a n es := by
  obtain ⟨b, ts, h1, h2, h3⟩ := h
  exact ⟨b, ts, s _ _ h1, s _ _ h2, Paired.imp (fun t e q => s _ _ q) h3⟩
theorem map_ref_ix {ts : List Addr} {i : Nat} {t : Addr} (h : ts[i]? = some t) : (ts.map V.ref)[i]? = some (V.ref t) := by rw [List.getElem?_map, h]; rfl
theorem lex_false {a b c d : Int} (h : a < c ∨ (a = c ∧ b < d)) : Ob.lexAt (fun j => decide (([c, d] : List Int).getD j 0 = ([a, b] : List Int).getD j 0)) (fun j => decide (([c, d] : List Int).getD j 0 ≤ ([a, b] : List Int).getD j 0)) (decide (([c, d] : List Int).length ≤ ([a, b] : List Int).length)) 0 (min ([c, d] : List Int).length ([a, b] : List Int).length) = false := by
  show Ob.lexAt _ _ _ 0 2 = false
  rw [Ob.lexAt_succ, Ob.lexAt_succ]
  show (if decide (c = a) = true then (if decide (d = b) = true then _ else decide (d ≤ b)) else decide (c ≤ a)) = false
  rcases h with h | ⟨h1, h2⟩
  · rw [if_neg (by simp; omega)]
    exact decide_eq_false (by omega)
  · rw [if_pos (by simp [h1]), if_neg (by simp; omega)]
    exact decide_eq_false (by omega)
section
variable {P : Program} {w : World} {K : PySem.W.Frag} {mg : Str → Option Value} {base : Heap}
def spNeedWeb : Sp := fun vs H Q _ => ∃ (a : Addr) (n : Nat) (es : List (Nat × Nat)), vs = [.ref a] ∧ WebAt H a n es ∧ GoodWeb n es ∧ ∀ H', Same H H' → Q .non H'
abbrev N_need_web : List Str := ["web", "index", "one"]
theorem sc_need_web : FnScope N_need_web ["web"] (defScope s_need_web) := ⟨rfl, rfl, rfl, by decide +kernel, rfl, by decide +kernel, by decide +kernel⟩
theorem ok_need_web (T : Tx mg) (hF : Has K mg "need_web" s_need_web) (G_is_in : Cl P w K mg base 1 "is_in" spIsIn) (G_is_edge : Cl P w K mg base 2 "is_edge" spIsEdge) : Cl P w K mg base 3 "need_web" spNeedWeb := by
  refine cl_of hF sc_need_web (fun vs H Q E h => by obtain ⟨a, n, es, rfl, _⟩ := h; rfl) (fun _ _ _ _ _ _ us hl => match us, hl with | [_], _ => rfl) fun f cdv A outer s H vs Q E hr h => ?_
  obtain ⟨a, n, es, rfl, hW, gw, q⟩ := h
  refine ⟨_, (pss_cons (ps_if (PW.pt (pw_or (pt_not (pt_val (pe_callB call_isi (by rfl) T.isi_ boot_isinstance (pa_cons (pv 0) (pa_cons (pe_bltn (v := .ty "tuple") (by rfl) T.tuple_ boot_tuple rfl) pa_nil))))) (pw_or (pt_cmpR op_ne (pe_callB call_len_seq (by rfl) T.len_ PySem.boot_len (pa_cons (pv 0) pa_nil)) pe_int (nomark _)) (pw_or1 (pt_not (pt_val (pc hr G_is_in (by decide) (by rfl) (pa_cons (pe_ix ix_tup (pv 0) pe_int (fun _ _ => rfl)) (pa_cons pe_int (pa_cons (pe_gi T.mp) pa_nil)))))))))) pss_never pss_nil)
    (pss_cons (ps_if (pt_not (pt_val (pe_callB call_isi (by rfl) T.isi_ boot_isinstance (pa_cons (pe_ix ix_tup (pv 0) pe_int (fun _ _ => rfl)) (pa_cons (pe_bltn (v := .ty "tuple") (by rfl) T.tuple_ boot_tuple rfl) pa_nil))))) pss_never pss_nil)
    (pss_one (ps_for PassesOwn.never rfl (pi_enumT (by rfl) T.enum_ (pa_cons (pe_ix ix_tup (pv 0) pe_int (fun _ _ => rfl)) pa_nil)) (pg_tup rfl (pgs_cons (pg_name (i := 1) sc_need_web.nd rfl (.inl rfl)) (pgs_cons (pg_name (i := 2) sc_need_web.nd rfl (.inl rfl)) pgs_nil))) (pss_one (ps_if (PW.pt (pw_or (pt_not (pt_val (pc hr G_is_edge (by decide) (by rfl) (pa_cons (pv 2) (pa_cons (pe_ix ix_tup (pv 0) pe_int (fun _ _ => rfl)) pa_nil))))) (pw_or1 (PW.pt (pw_and (pt_cmpR op_gt (pv 1) pe_int (nomark _)) (pw_and1 (pt_cmpR (op_leT hr.units0) (pv 2) (pe_ix ix_tup (pe_ix ix_tup (pv 0) pe_int (fun _ _ => rfl)) (pe_op op_sub (pv 1) pe_int) (fun _ _ => rfl)) (nomark _)))))))) pss_never pss_nil)))))), ?_⟩
  obtain ⟨b, ts, h1, h2, h3⟩ := id hW
  have hT : SqT K H a [.int n, .ref b] := SqT.of h1
  have lt : ts.length = es.length := Paired.length h3
  have np := gw.pos
  have nl := gw.le
  have en : inB (n : Int) 1 9 = true := by
    unfold inB
    rw [decide_eq_true (by omega), decide_eq_true (by omega)]
    rfl
  refine ⟨_, rfl, .ref a, .ty "tuple", _, _, true, rfl, .ty _, .base (.tup h1), kit_tt, true, rfl, iteF ?_⟩
  refine ⟨_, rfl, a, _, rfl, .inr hT, rfl, _, rfl, iteF ?_⟩
  refine ⟨_, rfl, a, _, 0, .int n, rfl, rfl, hT, rfl, n, 1, 9, rfl, true, congrArg V.bl en, iteF ?_⟩
  refine ⟨_, rfl, a, _, 1, .ref b, rfl, rfl, hT, rfl, .ref b, .ty "tuple", _, _, true, rfl, .ty _, .base (.tup h2), kit_tt, true, rfl, iteF ?_⟩
  refine ⟨_, rfl, a, _, 1, .ref b, rfl, rfl, hT, rfl, b, _, rfl, SqT.of h2, ?_⟩
  refine for_it (walk_enumT (K := K) (a := b) (xs := ts.map V.ref)) (fun i σ H' => ∃ y1 y2, σ = [some (.ref a), y1, y2] ∧ Same H H') ⟨none, none, rfl, Same.refl H⟩ (fun i σ H' _ ⟨_, _, _, sm⟩ => SqT.of (sm _ _ h2)) ?_ (fun σ H' ⟨_, _, _, sm⟩ => q H' sm)
  rintro i x σ H1 H2 hi ⟨y1, y2, rfl, sm⟩ ⟨T0, x1, x2, rfl, nT, rfl, e1, e2⟩
  have hi' : i < es.length := by rw [List.length_map] at hi; omega
  have ge : es[i]? = some es[i] := List.getElem?_eq_getElem hi'
  obtain ⟨t, et, at_⟩ := Paired.getR h3 ge
  obtain rfl := Option.some.inj e1
  obtain rfl := Option.some.inj ((map_ref_ix et).symm.trans e2)
  have sm2 : Same H (upd H1 T0 (.tup [.int (i : Nat), .ref t])) := same_new sm nT
  have mem := List.getElem_mem hi'
  obtain ⟨ge1, ge2⟩ := gw.edge _ mem
  have ee : edgeB (n : Int) (es[i].1 : Int) (es[i].2 : Int) = true := by
    unfold edgeB inB
    rw [decide_eq_true (by omega), decide_eq_true (by omega), decide_eq_true (by omega), decide_eq_true (by omega)]
    rfl
  refine ⟨T0, [.int (i : Nat), .ref t], rfl, .inl (.inl upd_same), rfl, _, [_], rfl, _, [], rfl, rfl, ?_⟩
  refine ⟨_, rfl, _, rfl, a, _, 0, .int n, rfl, rfl, SqT.of (sm2 _ _ h1), rfl, t, _, _, n, rfl, sm2 _ _ at_, true, congrArg V.bl ee, iteF ?_⟩
  refine ⟨_, rfl, _, 0, rfl, rfl, _, rfl, ?_⟩
  refine ite2 (fun c => ?_) (fun c => iteF ⟨_, _, rfl, sm2⟩)
  have ci : (0 : Int) < (i : Nat) := of_decide_eq_true c
  have hi1 : i - 1 < es.length := by omega
  obtain ⟨t', et', at'⟩ := Paired.getR h3 (List.getElem?_eq_getElem hi1)
  have ei : ((i : Nat) : Int) - 1 = ((i - 1 : Nat) : Int) := by omega
  have asc := List.pairwise_iff_getElem.mp gw.asc (i - 1) i hi1 hi' (by omega)
  refine ⟨_, rfl, _, rfl, a, _, 1, .ref b, rfl, rfl, SqT.of (sm2 _ _ h1), rfl, _, rfl, _, 1, rfl, rfl, b, _, _, .ref t', rfl, rfl, SqT.of (sm2 _ _ h2), ?_, t, t', [(es[i].1 : Int), (es[i].2 : Int)], [(es[i - 1].1 : Int), (es[i - 1].2 : Int)], rfl, rfl, SqT.of (sm2 _ _ at_), SqT.of (sm2 _ _ at'), false, congrArg V.bl (lex_false ?_), iteF ⟨_, _, rfl, sm2⟩⟩
  · show atI (ts.map V.ref) (((i : Nat) : Int) - 1) = _
    rw [ei]
    exact atI_nat (map_ref_ix et')
  · rcases asc with z | ⟨z1, z2⟩
    · exact .inl (by omega)
    · exact .inr ⟨by omega, by omega⟩
end
end Ck

namespace Ck
open PySem PySem.Spec PyProof.Rows L2
/-! ### layings -/
def cellV (c : Nat) : V := if c = 2 then .non else .int c
def LayAt (H : Hp) (a : Addr) (l : List Nat) : Prop := H a = some (.tup (l.map cellV))
theorem cellV_two : cellV 2 = .non := rfl
theorem cellV_ne {c : Nat} (h : c ≠ 2) : cellV c = .int c := if_neg h
theorem map_cell_ix {l : List Nat} {i c : Nat} (h : l[i]? = some c) : (l.map cellV)[i]? = some (cellV c) := by rw [List.getElem?_map, h]; rfl
/-! ### more of the plain law -/
def headsTo (l : List Nat) (i : Nat) : List Nat := (List.range i).filter fun k => l[k]? == some 1
theorem headsTo_succ (l : List Nat) (i : Nat) : headsTo l (i + 1) = if l[i]? = some 1 then headsTo l i ++ [i] else headsTo l i := by
  unfold headsTo
  rw [List.range_succ, List.filter_append]
  by_cases h : l[i]? = some 1
  · rw [if_pos h]
    simp [h]
  · rw [if_neg h]
    simp [h]
theorem headsTo_le (l : List Nat) (i : Nat) : (headsTo l i).length ≤ i := by
  unfold headsTo
  exact Nat.le_trans (List.length_filter_le _ _) (by rw [List.length_range]; exact Nat.le_refl i)
theorem nbrs_succ (es : List (Nat × Nat)) (p i : Nat) (e : Nat × Nat) (h : es[i]? = some e) : nbrs (es.take (i + 1)) p = if (e.1 == p || e.2 == p) = true then nbrs (es.take i) p ++ [e.1 + e.2 - p] else nbrs (es.take i) p := by
  unfold nbrs
  rw [List.take_add_one, h, List.filter_append, List.map_append]
  by_cases c : (e.1 == p || e.2 == p) = true
  · rw [if_pos c]
    congr 1
    show List.map _ (List.filter _ [e]) = _
    rw [List.filter_cons_of_pos (by exact c)]
    rfl
  · rw [if_neg c]
    show _ ++ List.map _ (List.filter _ [e]) = _
    rw [List.filter_cons_of_neg (by exact c)]
    simp
theorem nbrs_le (es : List (Nat × Nat)) (p : Nat) : (nbrs es p).length ≤ es.length := by
  unfold nbrs
  rw [List.length_map]
  exact List.length_filter_le _ _
theorem tog_comm : ∀ (l : List Nat) (a b : Nat), tog (tog l a) b = tog (tog l b) a
  | [], _, _ => rfl
  | x :: l, 0, 0 => rfl
  | x :: l, 0, b + 1 => rfl
  | x :: l, a + 1, 0 => rfl
  | x :: l, a + 1, b + 1 => by
    show x :: tog (tog l a) b = x :: tog (tog l b) a
    rw [tog_comm l a b]
theorem togs_perm {ks ms : List Nat} (h : ks.Perm ms) : ∀ l, togs l ks = togs l ms := by
  induction h with
  | nil => intro l; rfl
  | cons a _ ih => intro l; exact ih (tog l a)
  | swap a b r =>
    intro l
    show togs (tog (tog l b) a) r = togs (tog (tog l a) b) r
    rw [tog_comm]
  | trans _ _ i1 i2 => intro l; rw [i1, i2]
theorem tog_get : ∀ (l : List Nat) (k c : Nat), l[k]? = some c → tog l k = if c = 2 then l else l.set k (1 - c)
  | [], _, _, h => by simp at h
  | x :: l, 0, c, h => by
    have e : x = c := Option.some.inj h
    subst e
    show (if x = 2 then x else 1 - x) :: l = _
    by_cases h2 : x = 2
    · rw [if_pos h2, if_pos h2]
    · rw [if_neg h2, if_neg h2]; rfl
  | x :: l, k + 1, c, h => by
    show x :: tog l k = _
    rw [tog_get l k c h]
    by_cases h2 : c = 2
    · rw [if_pos h2, if_pos h2]
    · rw [if_neg h2, if_neg h2]; rfl
theorem map_set {α β : Type} (f : α → β) : ∀ (l : List α) (k : Nat) (x : α), (l.set k x).map f = (l.map f).set k (f x)
  | [], _, _ => rfl
  | y :: l, 0, x => rfl
  | y :: l, k + 1, x => by
    show f y :: (l.set k x).map f = f y :: (l.map f).set k (f x)
    rw [map_set f l k x]
section
variable {P : Program} {w : World} {K : PySem.W.Frag} {mg : Str → Option Value} {base : Heap}
/-! ### need_full -/
def spNeedFull : Sp := fun vs H Q _ => ∃ (a b : Addr) (n : Nat) (es : List (Nat × Nat)) (l : List Nat), vs = [.ref a, .ref b] ∧ WebAt H a n es ∧ LayAt H b l ∧ l.length = n ∧ (∀ c ∈ l, c ≤ 1) ∧ ∀ H', Same H H' → Q .non H'
abbrev N_need_full : List Str := ["web", "laying", "index", "one"]
theorem sc_need_full : FnScope N_need_full ["web", "laying"] (defScope s_need_full) := ⟨rfl, rfl, rfl, by decide +kernel, rfl, by decide +kernel, by decide +kernel⟩
theorem ok_need_full (T : Tx mg) (hF : Has K mg "need_full" s_need_full) (G_is_in : Cl P w K mg base 1 "is_in" spIsIn) : Cl P w K mg base 2 "need_full" spNeedFull := by
  refine cl_of hF sc_need_full (fun vs H Q E h => by obtain ⟨a, b, n, es, l, rfl, _⟩ := h; rfl) (fun _ _ _ _ _ _ us hl => match us, hl with | [_, _], _ => rfl) fun f cdv A outer s H vs Q E hr h => ?_
  obtain ⟨a, b, n, es, l, rfl, hW, hL, hl, hc, q⟩ := h
  refine ⟨_, (pss_cons (ps_if (PW.pt (pw_or (pt_not (pt_val (pe_callB call_isi (by rfl) T.isi_ boot_isinstance (pa_cons (pv 1) (pa_cons (pe_bltn (v := .ty "tuple") (by rfl) T.tuple_ boot_tuple rfl) pa_nil))))) (pw_or1 (pt_cmpR op_ne (pe_callB call_len_seq (by rfl) T.len_ PySem.boot_len (pa_cons (pv 1) pa_nil)) (pe_ix ix_tup (pv 0) pe_int (fun _ _ => rfl)) (nomark _))))) pss_never pss_nil)
    (pss_one (ps_for PassesOwn.never rfl (pi_enumT (by rfl) T.enum_ (pa_cons (pv 1) pa_nil)) (pg_tup rfl (pgs_cons (pg_name (i := 2) sc_need_full.nd rfl (.inl rfl)) (pgs_cons (pg_name (i := 3) sc_need_full.nd rfl (.inl rfl)) pgs_nil))) (pss_one (ps_if (pt_not (pt_val (pc hr G_is_in (by first | decide | omega) (by rfl) (pa_cons (pv 3) (pa_cons pe_int (pa_cons pe_int pa_nil)))))) pss_never pss_nil))))), ?_⟩
  obtain ⟨b', ts, h1, h2, h3⟩ := id hW
  have hL' : H b = some (.tup (l.map cellV)) := hL
  have hT : SqT K H a [.int n, .ref b'] := SqT.of h1
  have hB : SqT K H b (l.map cellV) := SqT.of hL'
  have el : V.int (((l.map cellV).length : Nat) : Int) = V.int (n : Int) := by rw [List.length_map, hl]
  refine ⟨_, rfl, .ref b, .ty "tuple", _, _, true, rfl, .ty _, .base (.tup hL'), kit_tt, true, rfl, iteF ?_⟩
  refine ⟨_, rfl, b, _, rfl, .inr hB, _, rfl, a, _, 0, .int n, rfl, rfl, hT, rfl, rfl, _, rfl, iteNS el ?_⟩
  refine ⟨_, rfl, b, _, rfl, hB, ?_⟩
  refine for_it (walk_enumT (K := K) (a := b) (xs := l.map cellV)) (fun i σ H' => ∃ y1 y2, σ = [some (.ref a), some (.ref b), y1, y2] ∧ Same H H') ⟨none, none, rfl, Same.refl H⟩ (fun i σ H' _ ⟨_, _, _, sm⟩ => SqT.of (sm _ _ hL')) ?_ (fun σ H' ⟨_, _, _, sm⟩ => q H' sm)
  rintro i x σ H1 H2 hi ⟨y1, y2, rfl, sm⟩ ⟨T0, x1, x2, rfl, nT, rfl, e1, e2⟩
  have hi' : i < l.length := by rw [List.length_map] at hi; exact hi
  obtain rfl := Option.some.inj e1
  obtain rfl := Option.some.inj ((map_cell_ix (List.getElem?_eq_getElem hi')).symm.trans e2)
  have sm2 : Same H (upd H1 T0 (.tup [.int (i : Nat), cellV l[i]])) := same_new sm nT
  have c1 := hc _ (List.getElem_mem hi')
  have en : inB (l[i] : Int) 0 1 = true := by
    unfold inB
    rw [decide_eq_true (by omega), decide_eq_true (by omega)]
    rfl
  refine ⟨T0, [.int (i : Nat), cellV l[i]], rfl, .inl (.inl upd_same), rfl, _, [_], rfl, _, [], rfl, rfl, ?_⟩
  refine ⟨_, rfl, (l[i] : Int), 0, 1, ?_, true, congrArg V.bl en, iteF ⟨_, _, rfl, sm2⟩⟩
  rw [cellV_ne (by omega)]
/-! ### need_both -/
def spNeedBoth : Sp := fun vs H Q _ => ∃ (a b : Addr) (n : Nat) (es : List (Nat × Nat)) (l : List Nat), vs = [.ref a, .ref b] ∧ WebAt H a n es ∧ GoodWeb n es ∧ LayAt H b l ∧ l.length = n ∧ (∀ c ∈ l, c ≤ 1) ∧ ∀ H', Same H H' → Q .non H'
abbrev N_need_both : List Str := ["web", "laying"]
theorem sc_need_both : FnScope N_need_both ["web", "laying"] (defScope s_need_both) := ⟨rfl, rfl, rfl, by decide +kernel, rfl, by decide +kernel, by decide +kernel⟩
theorem ok_need_both (T : Tx mg) (hF : Has K mg "need_both" s_need_both) (G_need_web : Cl P w K mg base 3 "need_web" spNeedWeb) (G_need_full : Cl P w K mg base 2 "need_full" spNeedFull) :
    Cl P w K mg base 4 "need_both" spNeedBoth := by
  refine cl_of hF sc_need_both (fun vs H Q E h => by obtain ⟨a, b, n, es, l, rfl, _⟩ := h; rfl) (fun _ _ _ _ _ _ us hl => match us, hl with | [_, _], _ => rfl) fun f cdv A outer s H vs Q E hr h => ?_
  obtain ⟨a, b, n, es, l, rfl, hW, gw, hL, hl, hc, q⟩ := h
  refine ⟨_, (pss_cons (ps_expr (pc hr G_need_web (by first | decide | omega) (by rfl) (pa_cons (pv 0) pa_nil)))
    (pss_one (ps_expr (pc hr G_need_full (by first | decide | omega) (by rfl) (pa_cons (pv 0) (pa_cons (pv 1) pa_nil)))))), ?_⟩
  refine ⟨_, rfl, a, n, es, rfl, hW, gw, fun H1 s1 => ?_⟩
  exact ⟨_, rfl, _, rfl, a, b, n, es, l, rfl, hW.same s1, s1 _ _ hL, hl, hc, fun H2 s2 => q H2 (s1.trans s2)⟩
/-! ### neighbours_in -/
def nV (ks : List Nat) : List V := ks.map fun k : Nat => V.int (k : Int)
theorem nV_append (a b : List Nat) : nV (a ++ b) = nV a ++ nV b := List.map_append
def spNbrs : Sp := fun vs H Q _ => ∃ (a : Addr) (n p : Nat) (es : List (Nat × Nat)), vs = [.ref a, .int p] ∧ WebAt H a n es ∧ es.length ≤ 50 ∧
  ∀ H' (r : Addr) (ks : List Nat), Same H H' → H r = none → ks.Perm (nbrs es p) → H' r = some (.lst (nV ks)) → Q (.ref r) H'
abbrev N_neighbours_in : List Str := ["web", "place", "a", "b"]
theorem sc_neighbours_in : FnScope N_neighbours_in ["web", "place"] (defScope s_neighbours_in) := ⟨rfl, rfl, rfl, by decide +kernel, rfl, by decide +kernel, by decide +kernel⟩
theorem ok_neighbours_in (T : Tx mg) (hF : Has K mg "neighbours_in" s_neighbours_in) : Cl P w K mg base 1 "neighbours_in" spNbrs := by
  refine cl_of hF sc_neighbours_in (fun vs H Q E h => by obtain ⟨a, n, p, es, rfl, _⟩ := h; rfl) (fun _ _ _ _ _ _ us hl => match us, hl with | [_, _], _ => rfl) fun f cdv A outer s H vs Q E hr h => ?_
  obtain ⟨a, n, p, es, rfl, hW, hes, q⟩ := h
  refine ⟨_, (pss_one (ps_ret (pe_callB cr_sorted (by rfl) T.sorted_ boot_sorted (pa_cons (pe_lc (own := [("a", 2), ("b", 3)]) (g := (gTup K 2 (gCons (gName 2) (gCons (gName 3) gNil)))) rfl sc_neighbours_in.nd (pi_tup (pe_ix ix_tup (pv 0) pe_int (fun _ _ => rfl))) (blkOk_by (own := [("a", 2), ("b", 3)]) (N := N_neighbours_in) (sc := defScope s_neighbours_in) (by decide +kernel)) (fun _ _ _ _ _ => (pg_tup rfl (pgs_cons (pg_name (i := 2) sc_neighbours_in.nd rfl (.inl rfl)) (pgs_cons (pg_name (i := 3) sc_neighbours_in.nd rfl (.inl rfl)) pgs_nil)))) (fun _ _ _ _ _ => (pts_one (pt_cmpR (show OpR _ _ (rIn K false) from op_in_seq) (pv 1) (pe_tup (pa_cons (pv 2) (pa_cons (pv 3) pa_nil))) (by rfl)))) (fun _ _ _ _ _ => (pe_op op_sub (pe_op op_add (pv 2) (pv 3)) (pv 1)))) pa_nil)))), ?_⟩
  obtain ⟨b, ts, h1, h2, h3⟩ := id hW
  have lt : ts.length = es.length := Paired.length h3
  refine ⟨_, rfl, a, _, 1, .ref b, rfl, rfl, SqT.of h1, rfl, b, rfl, ⟨_, SqT.of h2⟩, fun D hD => ?_⟩
  refine lc_it (walk_tup (K := K) (a := b) (xs := ts.map V.ref)) (fun i H' => Same H H' ∧ H' D = some (.lst (nV (nbrs (es.take i) p)))) ⟨same_new1 hD, upd_same⟩ (fun i H' _ ⟨sm, _⟩ => SqT.of (sm _ _ h2)) ?_ ?_
  · rintro i x H1 H2 hi ⟨sm, eD⟩ ⟨rfl, ex⟩
    have hi' : i < es.length := by rw [List.length_map] at hi; omega
    have ge : es[i]? = some es[i] := List.getElem?_eq_getElem hi'
    obtain ⟨t, et, at_⟩ := Paired.getR h3 ge
    obtain rfl := Option.some.inj ((map_ref_ix et).symm.trans ex)
    have at1 : H2 t = some (.tup [.int (es[i].1 : Int), .int (es[i].2 : Int)]) := sm _ _ at_
    refine ⟨t, _, rfl, SqT.of at1, rfl, _, [_], rfl, _, [], rfl, rfl, rfl, ?_⟩
    -- place in (a, b)
    refine ⟨_, rfl, _, rfl, _, rfl, (by show 2 ≤ sizeLine; decide), fun r hr' => ?_⟩
    have sm2 : Same H (upd H2 r (.tup [.int (es[i].1 : Int), .int (es[i].2 : Int)])) := same_new sm hr'
    have nDr : D ≠ r := ne_of_none eD hr'
    have eD2 : (upd H2 r (.tup [.int (es[i].1 : Int), .int (es[i].2 : Int)])) D = some (.lst (nV (nbrs (es.take i) p))) := by rw [upd_ne nDr]; exact eD
    have ec : inV (.int (p : Int)) [.int (es[i].1 : Int), .int (es[i].2 : Int)] = (es[i].1 == p || es[i].2 == p) := by
      show (((es[i].1 : Int) == (p : Int)) || (((es[i].2 : Int) == (p : Int)) || false)) = _
      rw [Bool.or_false]
      congr 1
      · rw [Bool.eq_iff_iff]; simp only [beq_iff_eq]; omega
      · rw [Bool.eq_iff_iff]; simp only [beq_iff_eq]; omega
    refine ⟨r, _, rfl, .inr (SqT.of upd_same), rfl, rfl, (es[i].1 == p || es[i].2 == p), congrArg V.bl ec, ite2 (fun c => ?_) (fun c => ?_)⟩
    · refine ⟨_, rfl, _, rfl, _, _, rfl, rfl, _, rfl, _, _, rfl, rfl, ?_⟩
      have en : nbrs (es.take (i + 1)) p = nbrs (es.take i) p ++ [es[i].1 + es[i].2 - p] := by rw [nbrs_succ es p i _ ge, if_pos c]
      have lp : p ≤ es[i].1 + es[i].2 := by
        rw [Bool.or_eq_true, beq_iff_eq, beq_iff_eq] at c
        omega
      refine ⟨_, eD2, ?_, fun c o z => ?_, ?_⟩
      · unfold nV
        rw [List.length_map]
        have := nbrs_le (es.take i) p
        rw [List.length_take] at this
        exact small1000 (by omega)
      · have nc : c ≠ D := fun e => by rw [e, hD] at z; cases z
        rw [upd_ne nc]
        exact sm2 _ _ z
      · rw [upd_same, en, nV_append]
        congr 3
        show [V.int ((es[i].1 : Int) + (es[i].2 : Int) - (p : Int))] = [V.int ((es[i].1 + es[i].2 - p : Nat) : Int)]
        congr 2
        omega
    · refine ⟨sm2, ?_⟩
      rw [nbrs_succ es p i _ ge, if_neg c]
      exact eD2
  · rintro H' ⟨sm, eD⟩
    have et : es.take (ts.map V.ref).length = es := List.take_of_length_le (by rw [List.length_map]; omega)
    rw [et] at eD
    have eD' : H' D = some (.lst ((((nbrs es p).map fun k : Nat => (k : Int))).map V.int)) := by
      rw [eD]
      unfold nV
      rw [List.map_map]
      rfl
    refine ⟨D, _, rfl, SqL.of eD', ?_, fun ns' r hp hs hr' => ?_⟩
    · rw [List.length_map]
      have := nbrs_le es p
      omega
    · have sm2 : Same H (upd H' r (.lst (ns'.map V.int))) := same_new sm hr'
      -- the sorted ints are natural numbers
      have nn : ∀ k ∈ ns', 0 ≤ k := fun k hk => by
        obtain ⟨m, _, rfl⟩ := List.mem_map.mp (hp.mem_iff.mp hk)
        omega
      have en : ns' = (ns'.map Int.toNat).map fun k : Nat => (k : Int) := by
        rw [List.map_map]
        conv => lhs; rw [← List.map_id ns']
        apply List.map_congr_left
        intro k hk
        have := nn k hk
        show k = ((k.toNat : Nat) : Int)
        omega
      refine q _ r (ns'.map Int.toNat) sm2 (sm.free hr') ?_ ?_
      · have := hp.map Int.toNat
        rw [List.map_map] at this
        have e2 : List.map (Int.toNat ∘ fun k : Nat => (k : Int)) (nbrs es p) = nbrs es p := by
          conv => rhs; rw [← List.map_id (nbrs es p)]
          apply List.map_congr_left
          intro k _
          rfl
        rw [e2] at this
        exact this
      · rw [upd_same]
        congr 2
        unfold nV
        rw [List.map_map]
        conv => lhs; rw [en]
        rw [List.map_map, List.map_map]
        rfl
end
end Ck

namespace Ck
open PySem PySem.Spec PyProof.Rows L2
/-! ### lists of ints as data -/
theorem nV_ints (ks : List Nat) : nV ks = (ks.map fun k : Nat => (k : Int)).map V.int := by
  unfold nV
  rw [List.map_map]
  rfl
theorem nV_length (ks : List Nat) : (nV ks).length = ks.length := List.length_map _
theorem nV_ix {ks : List Nat} {i k : Nat} (h : ks[i]? = some k) : (nV ks)[i]? = some (.int (k : Int)) := by unfold nV; rw [List.getElem?_map, h]; rfl
theorem dpAll_ints {K : PySem.W.Frag} {H : Hp} : ∀ ns : List Int, DpAll K H (ns.map V.int) (ns.map PyData.int)
  | [] => .nil
  | n :: ns => .cons (.int n) (dpAll_ints ns)
theorem canLay_ints : ∀ ns : List Int, PyData.canLayAll0 (ns.map PyData.int) = true
  | [] => by simp [PyData.canLayAll0]
  | n :: ns => by
    show PyData.canLayAll0 (PyData.int n :: ns.map PyData.int) = true
    rw [PyData.canLayAll0, canLay_ints ns]
    simp [PyData.canLay0]
theorem shaped_list (ns : List Int) : SeqAt.shaped (.list (ns.map PyData.int)) = true := by
  unfold SeqAt.shaped
  rw [Bool.and_eq_true, decide_eq_true_eq]
  refine ⟨by rw [PyData.canLay0]; exact canLay_ints ns, ?_⟩
  rw [PyData.depth, PySem.W.depth_ints]
  decide
theorem eqv_ints : ∀ ns ms : List Int, PyData.eqvAll (ns.map PyData.int) (ms.map PyData.int) = decide (ns = ms)
  | [], [] => by simp [PyData.eqvAll]
  | [], m :: ms => by simp [PyData.eqvAll]
  | n :: ns, [] => by simp [PyData.eqvAll]
  | n :: ns, m :: ms => by
    show PyData.eqvAll (PyData.int n :: ns.map PyData.int) (PyData.int m :: ms.map PyData.int) = _
    rw [PyData.eqvAll, eqv_ints ns ms]
    show ((n == m) && decide (ns = ms)) = decide (n :: ns = m :: ms)
    rw [Bool.eq_iff_iff]
    simp
theorem eqv_list (ns ms : List Int) : PyData.eqv (.list (ns.map PyData.int)) (.list (ms.map PyData.int)) = decide (ns = ms) := by
  rw [PyData.eqv]; exact eqv_ints ns ms
section
variable {P : Program} {w : World} {K : PySem.W.Frag} {mg : Str → Option Value} {base : Heap}
/-! ### heads_in -/
def spHeads : Sp := fun vs H Q _ => ∃ (a : Addr) (l : List Nat), vs = [.ref a] ∧ LayAt H a l ∧ l.length ≤ 1000 ∧ ∀ H' (r : Addr), Same H H' → H r = none → H' r = some (.lst (nV (heads l))) → Q (.ref r) H'
abbrev N_heads_in : List Str := ["laying", "k", "one"]
theorem sc_heads_in : FnScope N_heads_in ["laying"] (defScope s_heads_in) := ⟨rfl, rfl, rfl, by decide +kernel, rfl, by decide +kernel, by decide +kernel⟩
theorem ok_heads_in (T : Tx mg) (hF : Has K mg "heads_in" s_heads_in) : Cl P w K mg base 1 "heads_in" spHeads := by
  refine cl_of hF sc_heads_in (fun vs H Q E h => by obtain ⟨a, l, rfl, _⟩ := h; rfl) (fun _ _ _ _ _ _ us hl => match us, hl with | [_], _ => rfl) fun f cdv A outer s H vs Q E hr h => ?_
  obtain ⟨a, l, rfl, hL, hlen, q⟩ := h
  refine ⟨_, (pss_one (ps_ret (pe_lc (own := [("k", 1), ("one", 2)]) (g := (gTup K 2 (gCons (gName 1) (gCons (gName 2) gNil)))) rfl sc_heads_in.nd (pi_enumT (by rfl) T.enum_ (pa_cons (pv 0) pa_nil)) (blkOk_by (own := [("k", 1), ("one", 2)]) (N := N_heads_in) (sc := defScope s_heads_in) (by decide +kernel)) (fun _ _ _ _ _ => (pg_tup rfl (pgs_cons (pg_name (i := 1) sc_heads_in.nd rfl (.inl rfl)) (pgs_cons (pg_name (i := 2) sc_heads_in.nd rfl (.inl rfl)) pgs_nil)))) (fun _ _ _ _ _ => (pts_one (pt_cmpR op_eq (pv 2) pe_int (nomark _)))) (fun _ _ _ _ _ => (pv 1))))), ?_⟩
  have hL' : H a = some (.tup (l.map cellV)) := hL
  refine ⟨_, rfl, a, _, rfl, SqT.of hL', fun D hD => ?_⟩
  refine lc_it (walk_enumT (K := K) (a := a) (xs := l.map cellV)) (fun i H' => Same H H' ∧ H' D = some (.lst (nV (headsTo l i)))) ⟨same_new1 hD, upd_same⟩ (fun i H' _ ⟨sm, _⟩ => SqT.of (sm _ _ hL')) ?_ (fun H' ⟨sm, eD⟩ => q H' D sm hD (by rw [List.length_map] at eD; exact eD))
  rintro i x H1 H2 hi ⟨sm, eD⟩ ⟨T0, x1, x2, rfl, nT, rfl, e1, e2⟩
  have hi' : i < l.length := by rw [List.length_map] at hi; exact hi
  have ge : l[i]? = some l[i] := List.getElem?_eq_getElem hi'
  obtain rfl := Option.some.inj e1
  obtain rfl := Option.some.inj ((map_cell_ix ge).symm.trans e2)
  have sm2 : Same H (upd H1 T0 (.tup [.int (i : Nat), cellV l[i]])) := same_new sm nT
  have nDT : D ≠ T0 := ne_of_none eD nT
  have eD2 : (upd H1 T0 (.tup [.int (i : Nat), cellV l[i]])) D = some (.lst (nV (headsTo l i))) := by rw [upd_ne nDT]; exact eD
  have sc1 : scal (cellV l[i]) (.int 1) = true := by unfold cellV; split <;> rfl
  have ec : decide (cellV l[i] = .int 1) = decide (l[i] = 1) := by
    rw [Bool.eq_iff_iff, decide_eq_true_eq, decide_eq_true_eq]
    unfold cellV
    constructor
    · intro h
      split at h
      · cases h
      · injection h with h; omega
    · intro h
      rw [if_neg (by omega), h]
      rfl
  refine ⟨T0, [.int (i : Nat), cellV l[i]], rfl, .inl (.inl upd_same), rfl, _, [_], rfl, _, [], rfl, rfl, rfl, ?_⟩
  refine ⟨_, rfl, sc1, _, congrArg V.bl ec, ite2 (fun c => ?_) (fun c => ?_)⟩
  · have c1 : l[i]? = some 1 := by rw [ge, of_decide_eq_true c]
    refine ⟨_, rfl, _, eD2, ?_, fun b o z => ?_, ?_⟩
    · rw [nV_length]
      have := headsTo_le l i
      exact small1000 (by omega)
    · rw [upd_ne (fun e => by rw [e, hD] at z; cases z)]
      exact sm2 _ _ z
    · rw [upd_same, headsTo_succ, if_pos c1, nV_append]
      rfl
  · have c1 : ¬ l[i]? = some 1 := fun z => by
      rw [ge] at z
      exact c (decide_eq_true (Option.some.inj z))
    refine ⟨sm2, ?_⟩
    rw [headsTo_succ, if_neg c1]
    exact eD2
/-! ### taken_in -/
def spTaken : Sp := fun vs H Q _ => ∃ (a b : Addr) (n p : Nat) (es : List (Nat × Nat)) (l : List Nat), vs = [.ref a, .ref b, .int p] ∧ WebAt H a n es ∧ es.length ≤ 50 ∧ LayAt H b l ∧ l.length ≤ 1000 ∧ Cells l ∧ p < l.length ∧ (∀ e ∈ es, e.1 < l.length ∧ e.2 < l.length) ∧
  ∀ H' (r : Addr), Same H H' → H r = none → LayAt H' r (tk es l p) → Q (.ref r) H'
theorem nbrs_lt {es : List (Nat × Nat)} {p m : Nat} (h : ∀ e ∈ es, e.1 < m ∧ e.2 < m) {k : Nat} (hk : k ∈ nbrs es p) : k < m := by
  unfold nbrs at hk
  obtain ⟨e, he, rfl⟩ := List.mem_map.mp hk
  obtain ⟨he1, he2⟩ := List.mem_filter.mp he
  rw [Bool.or_eq_true, beq_iff_eq, beq_iff_eq] at he2
  have := h e he1
  omega
abbrev N_taken_in : List Str := ["web", "laying", "place", "found", "k"]
theorem sc_taken_in : FnScope N_taken_in ["web", "laying", "place"] (defScope s_taken_in) := ⟨rfl, rfl, rfl, by decide +kernel, rfl, by decide +kernel, by decide +kernel⟩
theorem ok_taken_in (T : Tx mg) (hF : Has K mg "taken_in" s_taken_in) (G_neighbours_in : Cl P w K mg base 1 "neighbours_in" spNbrs) : Cl P w K mg base 2 "taken_in" spTaken := by
  refine cl_of hF sc_taken_in (fun vs H Q E h => by obtain ⟨a, b, n, p, es, l, rfl, _⟩ := h; rfl) (fun _ _ _ _ _ _ us hl => match us, hl with | [_, _, _], _ => rfl) fun f cdv A outer s H vs Q E hr h => ?_
  obtain ⟨a, b, n, p, es, l, rfl, hW, hes, hL, hlen, hC, hp, hE, q⟩ := h
  refine ⟨_, (pss_cons (ps_set (i := 3) sc_taken_in.nd rfl (.inl rfl) (pe_callTy call_list_of (by rfl) T.list_ boot_list (pa_cons (pv 1) pa_nil)))
    (pss_cons (ps_for PassesOwn.never rfl (pi_list (pc hr G_neighbours_in (by first | decide | omega) (by rfl) (pa_cons (pv 0) (pa_cons (pv 2) pa_nil)))) (pg_name (i := 4) sc_taken_in.nd rfl (.inl rfl)) (pss_one (ps_if (pt_cmpR op_notN (pe_ix ix_list (pv 3) (pv 4) (fun _ _ => rfl)) pe_non (nomark _)) (pss_one (ps_asg (pe_op op_sub pe_int (pe_ix ix_list (pv 3) (pv 4) (fun _ _ => rfl))) (pg_sub (pv 3) (pv 4) set_list))) pss_nil)))
    (pss_cons (ps_asg pe_non (pg_sub (pv 3) (pv 2) set_list))
    (pss_one (ps_ret (pe_callTy call_tuple_of (by rfl) T.tuple_ boot_tuple (pa_cons (pv 3) pa_nil))))))), ?_⟩
  have hL' : H b = some (.tup (l.map cellV)) := hL
  refine ⟨_, rfl, b, _, rfl, .inr (SqT.of hL'), fun F nF => ?_⟩
  have s1 : Same H (upd H F (.lst (l.map cellV))) := same_new1 nF
  refine ⟨_, rfl, _, rfl, a, n, p, es, rfl, hW.same s1, hes, fun H2 r ks s2 nr pk er => ?_⟩
  have eF2 : H2 F = some (.lst (l.map cellV)) := s2 _ _ upd_same
  have nrF : r ≠ F := fun e => by rw [e, upd_same] at nr; cases nr
  refine ⟨r, rfl, ⟨_, SqL.of er⟩, ?_⟩
  refine for_it (walk_list (K := K) (a := r) (xs := nV ks)) (fun i σ H' => ∃ y, σ = [some (.ref a), some (.ref b), some (.int p), some (.ref F), y] ∧ Same H H' ∧ H' r = some (.lst (nV ks)) ∧ H' F = some (.lst ((togs l (ks.take i)).map cellV)))
    ⟨none, rfl, s1.trans s2, er, eF2⟩ (fun i σ H' _ ⟨_, _, _, z, _⟩ => SqL.of z) ?_ ?_
  · rintro i x σ H3 H4 hi ⟨y, rfl, sm, z, eF⟩ ⟨rfl, ex⟩
    rw [nV_length] at hi
    have gk : ks[i]? = some ks[i] := List.getElem?_eq_getElem hi
    obtain rfl := Option.some.inj ((nV_ix gk).symm.trans ex)
    have hk : ks[i] < l.length := nbrs_lt hE (pk.mem_iff.mp (List.getElem_mem hi))
    have hlt : ks[i] < (togs l (ks.take i)).length := by rw [togs_length]; exact hk
    have gc : (togs l (ks.take i))[ks[i]]? = some (togs l (ks.take i))[ks[i]] := List.getElem?_eq_getElem hlt
    have step : togs l (ks.take (i + 1)) = tog (togs l (ks.take i)) ks[i] := by
      unfold togs
      rw [List.take_add_one, gk, List.foldl_append]
      rfl
    have c2 : (togs l (ks.take i))[ks[i]] ≤ 2 := (hC.togs (ks.take i)) _ (List.getElem_mem hlt)
    generalize hc : (togs l (ks.take i))[ks[i]] = c at gc c2
    have tg := tog_get _ _ _ gc
    rw [← step] at tg
    -- if found[k] is not None
    refine ⟨_, rfl, _, rfl, F, _, _, _, rfl, rfl, SqL.of eF, atI_nat (map_cell_ix gc), rfl, _, rfl, ?_⟩
    by_cases h2 : c = 2
    · subst h2
      rw [if_pos rfl] at tg
      refine iteF ⟨_, rfl, sm, z, ?_⟩
      rw [tg]; exact eF
    · rw [if_neg h2] at tg
      have e1 : cellV c = .int (c : Int) := cellV_ne h2
      have et : (!decide (cellV c = .non)) = true := by rw [e1]; rfl
      rw [et]
      refine iteT ⟨_, rfl, _, rfl, F, _, _, _, rfl, rfl, SqL.of eF, atI_nat (map_cell_ix gc), 1, (c : Int), rfl, e1, ?_⟩
      refine ⟨_, rfl, _, rfl, F, _, _, ks[i], rfl, rfl, eF, ?_, _, rfl, ?_, ?_, ?_⟩
      · unfold ixN
        rw [if_pos (by omega), if_pos (by rw [List.length_map]; omega), Int.toNat_natCast]
      · intro bb oo zz
        rw [upd_ne (fun e => by rw [e, nF] at zz; cases zz)]
        exact sm _ _ zz
      · rw [upd_ne nrF]; exact z
      · rw [upd_same, tg, map_set]
        congr 3
        have hc01 : c = 0 ∨ c = 1 := by omega
        rcases hc01 with rfl | rfl <;> rfl
  · rintro σ H' ⟨y, rfl, sm, z, eF⟩
    have et : ks.take (nV ks).length = ks := List.take_of_length_le (by rw [nV_length]; exact Nat.le_refl _)
    rw [et] at eF
    refine ⟨_, rfl, _, rfl, F, _, _, p, rfl, rfl, eF, ?_, ?_⟩
    · unfold ixN
      rw [if_pos (by omega), if_pos (by rw [List.length_map, togs_length]; omega), Int.toNat_natCast]
    · have nF2 : (upd H' F (.lst (((togs l ks).map cellV).set p .non))) F = some (.lst (((togs l ks).map cellV).set p .non)) := upd_same
      refine ⟨_, rfl, F, _, rfl, .inl ⟨SqL.of nF2, fun t ht => ?_⟩⟩
      have nt : H' t = none := by
        have : t ≠ F := fun e => by rw [e, upd_same] at ht; cases ht
        rw [upd_ne this] at ht
        exact ht
      refine q _ t (fun bb oo zz => ?_) (sm.free nt) ?_
      · rw [upd_ne (ne_of_none (sm _ _ zz) nt), upd_ne (fun e => by rw [e, nF] at zz; cases zz)]
        exact sm _ _ zz
      · show upd _ t _ t = some (.tup ((tk es l p).map cellV))
        rw [upd_same]
        unfold tk
        rw [map_set, togs_perm pk]
        rfl
end
end Ck

namespace Ck
open PySem PySem.Spec PyProof.Rows L2
/-! ### the tables of counts -/
/-- all but x stands -/
def SX (x : Addr) (H H' : Hp) : Prop := ∀ b o, b ≠ x → H b = some o → H' b = some o
theorem SX.of {x : Addr} {H H' : Hp} (s : Same H H') : SX x H H' := fun b o _ e => s b o e
theorem SX.trans {x : Addr} {H H1 H2 : Hp} (s : SX x H H1) (t : SX x H1 H2) : SX x H H2 := fun b o n e => t b o n (s b o n e)
theorem SX.free {x b : Addr} {H H' : Hp} (s : SX x H H') (n : b ≠ x) (h : H' b = none) : H b = none := by
  cases e : H b with
  | none => rfl
  | some o => rw [s b o n e] at h; cases h
def keyOf (l : List Nat) : List Key := l.map fun c : Nat => Sum.inl (c : Int)
theorem keyOf_kV (l : List Nat) : (keyOf l).map kV = nV l := by
  unfold keyOf nV
  rw [List.map_map]
  rfl
theorem keyOf_inj : ∀ {l m : List Nat}, keyOf l = keyOf m → l = m
  | [], [], _ => rfl
  | [], _ :: _, h => by cases h
  | _ :: _, [], h => by cases h
  | c :: l, d :: m, h => by
    have h1 : (Sum.inl (c : Int) : Key) :: keyOf l = Sum.inl (d : Int) :: keyOf m := h
    injection h1 with a b
    injection a with a
    rw [keyOf_inj b, show c = d by omega]
def Good (es : List (Nat × Nat)) (kvs : List (List Key × V)) : Prop := ∀ (l : List Nat) (v : V), valV kvs (keyOf l) = some v → v = .int (cnt es l : Nat)
theorem Good.nil (es : List (Nat × Nat)) : Good es [] := fun l v h => by cases h
theorem Good.put {es : List (Nat × Nat)} {kvs : List (List Key × V)} (g : Good es kvs) (l : List Nat) : Good es (putK kvs (keyOf l) (.int (cnt es l : Nat))) := fun m v h => by
  rw [valV_put] at h
  by_cases e : keyOf m = keyOf l
  · rw [if_pos e] at h
    rw [keyOf_inj e]
    exact (Option.some.inj h).symm
  · rw [if_neg e] at h
    exact g m v h
/-- how many keys a call may add -/
def bnd : Nat → Nat
  | 0 => 0
  | r + 1 => 6 * bnd r + 1
theorem small1M {n : Nat} (h : n ≤ 2000000) : n ≤ sizeLine := Nat.le_trans h (by decide)
theorem small1Ml {n : Nat} (h : n ≤ 2000000) : n < sizeLine := Nat.lt_of_le_of_lt h (by decide)
theorem sum_nat_cast : ∀ ks : List Nat, ((ks.map fun k : Nat => (k : Int)).sum) = ((ks.sum : Nat) : Int)
  | [] => rfl
  | k :: ks => by
    rw [List.map_cons, List.sum_cons, List.sum_cons, sum_nat_cast ks]
    omega
def fullOf (l : List Nat) : List Nat := l.filter fun c => c != 2
theorem fullOf_nil (l : List Nat) : decide ((fullOf l).map (fun k : Nat => (k : Int)) = []) = decide (live l = 0) := by
  unfold fullOf live
  rw [List.countP_eq_length_filter, Bool.eq_iff_iff, decide_eq_true_eq, decide_eq_true_eq, List.length_eq_zero_iff, List.map_eq_nil_iff]
theorem fullOf_take (l : List Nat) (i c : Nat) (h : l[i]? = some c) : fullOf (l.take (i + 1)) = if c = 2 then fullOf (l.take i) else fullOf (l.take i) ++ [c] := by
  unfold fullOf
  rw [List.take_add_one, h, List.filter_append]
  by_cases e : c = 2
  · rw [if_pos e, e]
    simp
  · rw [if_neg e]
    simp [e]
theorem headsTo_all (l : List Nat) : headsTo l l.length = heads l := rfl
theorem cellV_non (c : Nat) : decide (cellV c = .non) = decide (c = 2) := by
  by_cases e : c = 2
  · rw [e]; rfl
  · rw [cellV_ne e, decide_eq_false e]; rfl
theorem fullOf_le (l : List Nat) : (fullOf l).length ≤ l.length := List.length_filter_le _ _
section
variable {P : Program} {w : World} {K : PySem.W.Frag} {mg : Str → Option Value} {base : Heap}
theorem cl_none {x : Str} {st : Stmt} {ps : List Str} {sp : Sp} (hF : Has K mg x st) (hb : ∀ (kV doc pm : Value) (an : Option Addr) (cdv ct : Value) (us : List Value), us.length = ps.length → bindArgs (PySem.W.fnOf x x (defArgs st) (defBody st) (defScope st) .none kV doc pm an cdv ct) ⟨us, []⟩ = pure (ps.zip us))
    (k : Nat) (no : ∀ vs H Q E, ¬ sp vs H Q E) : Cl P w K mg base k x sp := by
  obtain ⟨f, fd, F, hm⟩ := hF
  exact ⟨f, fd, ps, ⟨fun vs H Q E h => absurd h (no vs H Q E), fun A outer s H args us vs Q E _ _ _ _ h => absurd h (no vs H Q E)⟩, hm, F.kp, F.bindsN hb⟩
def spCount (r : Nat) : Sp := fun vs H Q _ => ∃ (a b kd : Addr) (n : Nat) (es : List (Nat × Nat)) (l : List Nat) (kvs : List (List Key × V)), vs = [.ref a, .ref b, .ref kd] ∧ WebAt H a n es ∧ es.length ≤ 50 ∧ LayAt H b l ∧ l.length ≤ 6 ∧ Cells l ∧
  (∀ e ∈ es, e.1 < l.length ∧ e.2 < l.length) ∧ live l < r ∧ H kd = some (.dT kvs) ∧ Good es kvs ∧ kvs.length + bnd r ≤ 1000000 ∧
  ∀ H' kvs', SX kd H H' → H' kd = some (.dT kvs') → Good es kvs' → kvs'.length ≤ kvs.length + bnd r → Q (.int (cnt es l : Nat)) H'
abbrev N_count_in : List Str := ["web", "laying", "known", "one", "key", "k"]
theorem sc_count_in : FnScope N_count_in ["web", "laying", "known"] (defScope s_count_in) := ⟨rfl, rfl, rfl, by decide +kernel, rfl, by decide +kernel, by decide +kernel⟩
theorem WebAt.sx {H H' : Hp} {a kd : Addr} {n : Nat} {es : List (Nat × Nat)} {kvs : List (List Key × V)} (hk : H kd = some (.dT kvs)) (s : SX kd H H') (h : WebAt H a n es) : WebAt H' a n es := by
  obtain ⟨b, ts, h1, h2, h3⟩ := h
  have ne : ∀ {x : Addr} {xs : List V}, H x = some (.tup xs) → x ≠ kd := fun {x xs} e z => by rw [z, hk] at e; cases e
  exact ⟨b, ts, s _ _ (ne h1) h1, s _ _ (ne h2) h2, Paired.imp (fun t e q => s _ _ (ne q) q) h3⟩
theorem ok_count_step (T : Tx mg) (hF : Has K mg "count_in" s_count_in) (G_heads_in : Cl P w K mg base 1 "heads_in" spHeads) (G_taken_in : Cl P w K mg base 2 "taken_in" spTaken) (r : Nat) (G_count_in : Cl P w K mg base (2 + r) "count_in" (spCount r)) : Cl P w K mg base (2 + r + 1) "count_in" (spCount (r + 1)) := by
  refine cl_of hF sc_count_in (fun vs H Q E h => by obtain ⟨a, b, kd, n, es, l, kvs, rfl, _⟩ := h; rfl) (fun _ _ _ _ _ _ us hl => match us, hl with | [_, _, _], _ => rfl) fun f cdv A outer s H vs Q E hr h => ?_
  obtain ⟨a, b, kd, n, es, l, kvs, rfl, hW, hes, hL, hlen, hC, hE, hlive, hk, gd, hsz, q⟩ := h
  refine ⟨_, (pss_cons (ps_if (pt_cmpR (op_eqD hr.units) (pe_lc (own := [("one", 3)]) (g := (gName 3)) rfl sc_count_in.nd (pi_tup (pv 1)) (blkOk_by (own := [("one", 3)]) (N := N_count_in) (sc := defScope s_count_in) (by decide +kernel)) (fun _ _ _ _ _ => (pg_name (i := 3) sc_count_in.nd rfl (.inl rfl))) (fun _ _ _ _ _ => (pts_one (pt_cmpR op_notN (pv 3) pe_non (nomark _)))) (fun _ _ _ _ _ => (pv 3))) (pe_lst pa_nil) (nomark _)) (pss_one (ps_ret pe_int)) pss_nil)
    (pss_cons (ps_set (i := 4) sc_count_in.nd rfl (.inl rfl) (pe_callTy call_tuple_of (by rfl) T.tuple_ boot_tuple (pa_cons (pe_lc (own := [("one", 3)]) (g := (gName 3)) (tt := tYes) rfl sc_count_in.nd (pi_tup (pv 1)) (blkOk_by (own := [("one", 3)]) (N := N_count_in) (sc := defScope s_count_in) (by decide +kernel)) (fun _ _ _ _ _ => (pg_name (i := 3) sc_count_in.nd rfl (.inl rfl))) (fun _ _ _ _ _ => pts_nil) (fun _ _ _ _ _ => (pe_ifExp (pt_cmpR op_isN (pv 3) pe_non (nomark _)) pe_int (pv 3)))) pa_nil)))
    (pss_cons (ps_if (pt_cmp (pc_dnotin (hu_of hr) (pv 4) (pv 2))) (pss_one (ps_dput (hu_of hr) (pv 2) (pv 4) (pe_callB (cr_sum rfl) (by rfl) T.sum_ boot_sum (pa_cons (pe_lc (own := [("k", 5)]) (g := (gName 5)) (tt := tYes) rfl sc_count_in.nd (pi_list (pc hr G_heads_in (by first | decide | omega) (by rfl) (pa_cons (pv 1) pa_nil))) (blkOk_by (own := [("k", 5)]) (N := N_count_in) (sc := defScope s_count_in) (by decide +kernel)) (fun _ _ _ _ _ => (pg_name (i := 5) sc_count_in.nd rfl (.inl rfl))) (fun _ _ _ _ _ => pts_nil) (fun _ _ _ _ _ => (pc hr G_count_in (by first | decide | omega) (by rfl) (pa_cons (pv 0) (pa_cons (pc hr G_taken_in (by first | decide | omega) (by rfl) (pa_cons (pv 0) (pa_cons (pv 1) (pa_cons (pv 5) pa_nil)))) (pa_cons (pv 2) pa_nil)))))) pa_nil)) rfl)) pss_nil)
    (pss_one (ps_ret (pe_dget (hu_of hr) (pv 2) (pv 4) (fun _ _ => rfl))))))), ?_⟩
  have hL' : H b = some (.tup (l.map cellV)) := hL
  refine ⟨_, rfl, b, rfl, ⟨_, SqT.of hL'⟩, fun D hD => ?_⟩
  refine lc_it (walk_tup (K := K) (a := b) (xs := l.map cellV)) (fun i H' => Same H H' ∧ H' D = some (.lst (nV (fullOf (l.take i))))) ⟨same_new1 hD, upd_same⟩ (fun i H' _ ⟨sm, _⟩ => SqT.of (sm _ _ hL')) ?_ ?_
  · rintro i x H1 H2 hi ⟨sm, eD⟩ ⟨rfl, ex⟩
    have hi' : i < l.length := by rw [List.length_map] at hi; exact hi
    have ge : l[i]? = some l[i] := List.getElem?_eq_getElem hi'
    obtain rfl := Option.some.inj ((map_cell_ix ge).symm.trans ex)
    refine ⟨rfl, _, rfl, rfl, _, rfl, ite2 (fun c => ?_) (fun c => ?_)⟩
    · rw [cellV_non] at c
      have c2 : ¬ l[i] = 2 := by simpa using c
      refine ⟨_, rfl, _, eD, ?_, fun x o z => ?_, ?_⟩
      · rw [nV_length]
        have := fullOf_le (l.take i)
        rw [List.length_take] at this
        exact small1000 (by omega)
      · rw [upd_ne (fun e => by rw [e, hD] at z; cases z)]
        exact sm _ _ z
      · rw [upd_same, fullOf_take l i _ ge, if_neg c2, nV_append, cellV_ne c2]
        rfl
    · rw [cellV_non] at c
      have c2 : l[i] = 2 := by simpa using c
      refine ⟨sm, ?_⟩
      rw [fullOf_take l i _ ge, if_pos c2]
      exact eD
  · rintro H1 ⟨sm, eD⟩
    have et : l.take (l.map cellV).length = l := List.take_of_length_le (by rw [List.length_map]; exact Nat.le_refl _)
    rw [et, nV_ints] at eD
    refine ⟨(by show 0 ≤ sizeLine; decide), fun D2 hD2 => ?_⟩
    have s2 : Same H (upd H1 D2 (.lst [])) := same_new sm hD2
    have eD' : (upd H1 D2 (.lst [])) D = some (.lst (((fullOf l).map fun k : Nat => (k : Int)).map V.int)) := by rw [upd_ne (ne_of_none eD hD2)]; exact eD
    refine ⟨_, _, Dp.lst (SqL.of eD') (dpAll_ints _), Dp.lst (SqL.of upd_same) .nil, shaped_list _, shaped_list [], _, congrArg V.bl ((eqv_list _ []).trans (fullOf_nil l)), ite2 (fun c => ?_) (fun c => ?_)⟩
    · have c0 : live l = 0 := of_decide_eq_true c
      have := q _ kvs (SX.of s2) (s2 _ _ hk) gd (by omega)
      rw [cnt_zero es l c0] at this
      exact this
    have c0 : live l ≠ 0 := fun e => c (decide_eq_true e)
    refine ⟨_, rfl, b, rfl, ⟨_, SqT.of (s2 _ _ hL')⟩, fun F hF => ?_⟩
    refine lc_it (walk_tup (K := K) (a := b) (xs := l.map cellV)) (fun i H' => Same H H' ∧ H' F = some (.lst (nV (l.take i)))) ⟨same_new s2 hF, upd_same⟩ (fun i H' _ ⟨sm, _⟩ => SqT.of (sm _ _ hL')) ?_ ?_
    · rintro i x H3 H4 hi ⟨sm3, eF⟩ ⟨rfl, ex⟩
      have hi' : i < l.length := by rw [List.length_map] at hi; exact hi
      have ge : l[i]? = some l[i] := List.getElem?_eq_getElem hi'
      obtain rfl := Option.some.inj ((map_cell_ix ge).symm.trans ex)
      have fin : ∀ y, y = V.int (l[i] : Nat) → ∃ acc, H4 F = some (.lst acc) ∧ acc.length < sizeLine ∧ Same H (upd H4 F (.lst (acc ++ [y]))) ∧ upd H4 F (.lst (acc ++ [y])) F = some (.lst (nV (l.take (i + 1)))) := by
        rintro y rfl
        refine ⟨_, eF, ?_, fun x o z => ?_, ?_⟩
        · rw [nV_length, List.length_take]
          exact small1000 (by omega)
        · rw [upd_ne (fun e => by rw [e, s2.free hF] at z; cases z)]
          exact sm3 _ _ z
        · rw [upd_same, List.take_add_one, ge, nV_append]
          rfl
      refine ⟨rfl, ?_⟩
      refine ⟨_, rfl, rfl, _, rfl, ite2 (fun c => ?_) (fun c => ?_)⟩
      · rw [cellV_non] at c
        exact fin _ (by rw [of_decide_eq_true c]; rfl)
      · rw [cellV_non] at c
        exact ⟨_, rfl, fin _ (cellV_ne (fun e => c (decide_eq_true e)))⟩
    · rintro H3 ⟨sm3, eF⟩
      rw [et] at eF
      refine ⟨F, _, rfl, .inl ⟨SqL.of eF, fun t ht => ?_⟩⟩
      have s4 : Same H (upd H3 t (.tup (nV l))) := same_new sm3 ht
      have ek : (upd H3 t (.tup (nV l))) t = some (.tup ((keyOf l).map kV)) := by rw [upd_same, keyOf_kV]
      have hk4 := s4 _ _ hk
      have nt : t ≠ kd := fun z => by rw [z, sm3 _ _ hk] at ht; cases ht
      -- the end, the key there
      have fin : ∀ H' kvs', SX kd (upd H3 t (.tup (nV l))) H' → H' kd = some (.dT kvs') → Good es kvs' → kvs'.length ≤ kvs.length + bnd (r + 1) → (∃ v, valV kvs' (keyOf l) = some v) →
          tDGet (tVar 2) (tVar 4) [some (.ref a), some (.ref b), some (.ref kd), none, some (.ref t), none] H' Q := by
        rintro H' kvs' sx e g hz ⟨v, ev⟩
        obtain rfl := g l v ev
        exact ⟨_, rfl, _, rfl, kd, _, rfl, by rw [← ev]; exact DGet.t e (sx _ _ nt ek), q H' kvs' ((SX.of s4).trans sx) e g hz⟩
      refine ⟨_, rfl, _, rfl, kd, valV kvs (keyOf l), rfl, DGet.t hk4 ek, _, rfl, ite2 (fun c => ?_) (fun c => ?_)⟩
      · -- key not in known
        have c1 : valV kvs (keyOf l) = none := by
          cases e : valV kvs (keyOf l) with
          | none => rfl
          | some v => rw [e] at c; exact absurd (show false = true from c) (by decide)
        refine ⟨_, rfl, b, l, rfl, s4 _ _ hL', by omega, fun H5 R s5 nR eR => ?_⟩
        have s05 : Same H H5 := s4.trans s5
        refine ⟨R, rfl, ⟨_, SqL.of eR⟩, fun S hS => ?_⟩
        have nRS : R ≠ S := ne_of_none eR hS
        have nSk : S ≠ kd := fun z => by rw [z, s05 _ _ hk] at hS; cases hS
        have nRk : R ≠ kd := fun z => by rw [z, hk4] at nR; cases nR
        have hlr : (heads l).length ≤ 6 := Nat.le_trans (by rw [← headsTo_all]; exact headsTo_le l l.length) hlen
        have bs : bnd (r + 1) = 6 * bnd r + 1 := rfl
        let hs := heads l
        refine lc_it (walk_list (K := K) (a := R) (xs := nV (heads l))) (fun i H' => ∃ kvs', SX kd H5 H' ∧ H' kd = some (.dT kvs') ∧ Good es kvs' ∧ kvs'.length ≤ kvs.length + i * bnd r ∧ H' S = some (.lst (nV (((heads l).take i).map fun k => cnt es (tk es l k)))))
          ⟨kvs, SX.of (same_new1 hS), ?_, gd, by omega, upd_same⟩ (fun i H' _ ⟨_, sx, _⟩ => SqL.of (sx _ _ nRk eR)) ?_ ?_
        · rw [upd_ne (Ne.symm nSk)]; exact s05 _ _ hk
        · rintro i x H6 H7 hi ⟨kvs6, sx, e6, g6, l6, eS⟩ ⟨rfl, ex⟩
          rw [nV_length] at hi
          have gk : (heads l)[i]? = some (heads l)[i] := List.getElem?_eq_getElem hi
          obtain rfl := Option.some.inj ((nV_ix gk).symm.trans ex)
          have hk1 : l[(heads l)[i]]? = some 1 := mem_heads.mp (List.getElem_mem hi)
          have hklt : (heads l)[i] < l.length := (List.getElem?_eq_some_iff.mp hk1).1
          generalize (heads l)[i] = k at gk hk1 hklt
          have nb : b ≠ kd := fun z => by rw [z, hk] at hL'; cases hL'
          refine ⟨rfl, _, rfl, _, rfl, _, rfl, _, rfl, a, b, n, k, es, l, rfl, (hW.same s05).sx (s05 _ _ hk) sx, hes, sx _ _ nb (s05 _ _ hL'), by omega, hC, hklt, hE, fun H8 t8 s8 nt8 hL8 => ?_⟩
          refine ⟨_, rfl, a, t8, kd, n, es, tk es l k, kvs6, rfl, ((hW.same s05).sx (s05 _ _ hk) sx).same s8, hes, hL8, by rw [tk_length]; exact hlen, hC.tk es k, by rw [tk_length]; exact hE, ?_, s8 _ _ e6, g6, ?_, fun H9 kvs9 sx9 e9 g9 l9 => ?_⟩
          · have := tk_live es l k hk1
            omega
          · have : i * bnd r ≤ 5 * bnd r := Nat.mul_le_mul_right _ (by omega)
            omega
          · refine ⟨_, sx9 _ _ nSk (s8 _ _ eS), ?_, kvs9, fun x o n z => ?_, ?_, g9, ?_, ?_⟩
            · rw [nV_length, List.length_map, List.length_take]
              exact small1000 (by omega)
            · rw [upd_ne (fun e => by rw [e, hS] at z; cases z)]
              exact sx9 _ _ n (s8 _ _ (sx _ _ n z))
            · rw [upd_ne (Ne.symm nSk)]; exact e9
            · rw [Nat.succ_mul]; omega
            · rw [upd_same, List.take_add_one, gk, List.map_append, nV_append]
              rfl
        · rintro H6 ⟨kvs6, sx, e6, g6, l6, eS⟩
          rw [nV_length] at l6 eS
          rw [List.take_of_length_le (Nat.le_refl _), nV_ints] at eS
          refine ⟨S, _, rfl, SqL.of eS, ?_⟩
          rw [sum_nat_cast, ← cnt_eq es l c0]
          have l6' : kvs6.length ≤ kvs.length + 6 * bnd r := Nat.le_trans l6 (Nat.add_le_add_left (Nat.mul_le_mul_right _ hlr) _)
          have ekt := sx _ _ nt (s5 _ _ ek)
          refine ⟨_, rfl, _, rfl, kd, _, rfl, DPut.t e6 ekt (small1Ml (by omega)), ?_⟩
          have sx' : SX kd (upd H3 t (.tup (nV l))) (upd H6 kd (.dT (putK kvs6 (keyOf l) (.int (cnt es l : Nat))))) := fun x o n z => by
            rw [upd_ne n]
            exact sx _ _ n (s5 _ _ z)
          refine fin _ _ sx' upd_same (g6.put l) ?_ ⟨_, by rw [valV_put, if_pos rfl]⟩
          have := DSub.putK_len kvs6 (keyOf l) (.int (cnt es l : Nat))
          omega
      · have c1 : ∃ v, valV kvs (keyOf l) = some v := by
          cases e : valV kvs (keyOf l) with
          | none => rw [e] at c; exact absurd rfl c
          | some v => exact ⟨v, rfl⟩
        exact fin _ kvs (SX.of (Same.refl _)) hk4 gd (by omega) c1
theorem ok_count_in (T : Tx mg) (hF : Has K mg "count_in" s_count_in) (G_heads_in : Cl P w K mg base 1 "heads_in" spHeads) (G_taken_in : Cl P w K mg base 2 "taken_in" spTaken) : ∀ r : Nat, Cl P w K mg base (2 + r) "count_in" (spCount r)
  | 0 => cl_none hF (ps := ["web", "laying", "known"]) (fun _ _ _ _ _ _ us hl => match us, hl with | [_, _, _], _ => rfl) _ fun vs H Q E h => by
    obtain ⟨a, b, kd, n, es, l, kvs, _, _, _, _, _, _, _, h0, _⟩ := h
    omega
  | r + 1 => ok_count_step T hF G_heads_in G_taken_in r (ok_count_in T hF G_heads_in G_taken_in r)
end
end Ck

namespace Ck
open PySem PySem.Spec PyProof.Rows L2
/-! ### the full layings -/
def ext (ls : List (List Nat)) : List (List Nat) := ls.flatMap fun l => [l ++ [0], l ++ [1]]
def fl : Nat → List (List Nat)
  | 0 => [[]]
  | n + 1 => ext (fl n)
theorem ext_append (a b : List (List Nat)) : ext (a ++ b) = ext a ++ ext b := by unfold ext; exact List.flatMap_append
theorem ext_cons (c : Nat) (ls : List (List Nat)) : ext (ls.map (c :: ·)) = (ext ls).map (c :: ·) := by
  induction ls with
  | nil => rfl
  | cons l ls ih =>
    show (c :: l ++ [0]) :: (c :: l ++ [1]) :: ext (ls.map (c :: ·)) = (c :: (l ++ [0])) :: (c :: (l ++ [1])) :: (ext ls).map (c :: ·)
    rw [ih]
    rfl
theorem ext_lays : ∀ n : Nat, ext (lays (List.replicate n true)) = lays (List.replicate (n + 1) true)
  | 0 => rfl
  | n + 1 => by
    show ext ((lays (List.replicate n true)).map (0 :: ·) ++ (lays (List.replicate n true)).map (1 :: ·)) = (lays (List.replicate (n + 1) true)).map (0 :: ·) ++ (lays (List.replicate (n + 1) true)).map (1 :: ·)
    rw [ext_append, ext_cons, ext_cons, ext_lays n]
theorem fl_lays : ∀ n : Nat, fl n = lays (List.replicate n true)
  | 0 => rfl
  | n + 1 => by
    show ext (fl n) = _
    rw [fl_lays n, ext_lays n]
theorem fl_len {n : Nat} {l : List Nat} (h : l ∈ fl n) : l.length = n := by
  rw [fl_lays] at h
  rw [lays_length _ l h, List.length_replicate]
theorem ext_length (ls : List (List Nat)) : (ext ls).length = 2 * ls.length := by
  induction ls with
  | nil => rfl
  | cons l ls ih =>
    show (ext ls).length + 1 + 1 = 2 * (ls.length + 1)
    omega
theorem fl_length : ∀ n : Nat, (fl n).length = 2 ^ n
  | 0 => rfl
  | n + 1 => by
    show (ext (fl n)).length = _
    rw [ext_length, fl_length n, Nat.pow_succ]
    omega
theorem fl_le1 : ∀ (n : Nat) (l : List Nat), l ∈ fl n → ∀ c ∈ l, c ≤ 1
  | 0, l, h => by
    rw [List.mem_singleton.mp h]
    intro c hc
    cases hc
  | n + 1, l, h => by
    obtain ⟨m, hm, hl⟩ := List.mem_flatMap.mp (show l ∈ (fl n).flatMap _ from h)
    have ih := fl_le1 n m hm
    intro c hc
    rcases List.mem_cons.mp hl with rfl | hl
    · rcases List.mem_append.mp hc with hc | hc
      · exact ih c hc
      · rw [List.mem_singleton.mp hc]; omega
    · rw [List.mem_singleton.mp hl] at hc
      rcases List.mem_append.mp hc with hc | hc
      · exact ih c hc
      · rw [List.mem_singleton.mp hc]; omega
theorem ext_take (ls : List (List Nat)) (i : Nat) (l : List Nat) (h : ls[i]? = some l) : ext (ls.take (i + 1)) = ext (ls.take i) ++ [l ++ [0], l ++ [1]] := by
  rw [List.take_add_one, h, ext_append]
  rfl
theorem pow6 {n : Nat} (h : n ≤ 6) : 2 ^ n ≤ 64 := Nat.le_trans (Nat.pow_le_pow_right (by decide) h) (by decide)
theorem in_it {J : It} {n : Nat} {G : Hp → Prop} {Y : Nat → Hp → V → Hp → Prop} (w : Walk J n G Y) {F : V → Hp → (Hp → Prop) → Prop} {H0 : Hp} {Nx : Hp → Prop} (Pv : Nat → Hp → Prop) (h0 : Pv 0 H0) (hG : ∀ i H, i ≤ n → Pv i H → G H)
    (hs : ∀ i x H H', i < n → Pv i H → Y i H x H' → F x H' (Pv (i + 1))) (hd : ∀ H, Pv n H → Nx H) :
    ∃ W : Nat → Nat → Hp → Prop, (∃ m, W 0 m H0) ∧ ∀ i m H, W i m H → (J.stop i H ∧ Nx H) ∨ (J.go i H ∧ ∃ Nx1 : Hp → Prop, (∀ H', Nx1 H' → ∃ m', m' < m ∧ W (i + 1) m' H') ∧ ∀ x H', J.yld i H x H' → F x H' Nx1) := by
  refine ⟨fun i m H => m = n - i ∧ i ≤ n ∧ Pv i H, ⟨n, by simp, Nat.zero_le _, h0⟩, ?_⟩
  rintro i m H ⟨rfl, hi, p⟩
  have q := hG i H hi p
  by_cases hlt : i < n
  · exact .inr ⟨w.goes i H hlt q, Pv (i + 1), fun H' p' => ⟨n - (i + 1), by omega, rfl, hlt, p'⟩, fun x H' y => hs i x H H' hlt p (w.yields i H x H' hlt q y)⟩
  · have e : i = n := by omega
    subst e
    exact .inl ⟨w.stops H q, hd H p⟩
theorem same_sx {x : Addr} {H H1 H2 : Hp} (s : Same H H1) (hx : H x = none) (t : SX x H1 H2) : Same H H2 := fun b o e => t b o (ne_of_none e hx) (s b o e)
section
variable {P : Program} {w : World} {K : PySem.W.Frag} {mg : Str → Option Value} {base : Heap}
/-! ### order_count -/
theorem cells_of_le1 {l : List Nat} (h : ∀ c ∈ l, c ≤ 1) : Cells l := fun c hc => Nat.le_trans (h c hc) (by decide)
theorem live_le (l : List Nat) : live l ≤ l.length := List.countP_le_length
def spOrder : Sp := fun vs H Q _ => ∃ (a b : Addr) (n : Nat) (es : List (Nat × Nat)) (l : List Nat), vs = [.ref a, .ref b] ∧ WebAt H a n es ∧ GoodWeb n es ∧ LayAt H b l ∧ l.length = n ∧ (∀ c ∈ l, c ≤ 1) ∧ ∀ H', Same H H' → Q (.int (cnt es l : Nat)) H'
abbrev N_order_count : List Str := ["web", "laying"]
theorem sc_order_count : FnScope N_order_count ["web", "laying"] (defScope s_order_count) := ⟨rfl, rfl, rfl, by decide +kernel, rfl, by decide +kernel, by decide +kernel⟩
theorem ok_order_count (T : Tx mg) (hF : Has K mg "order_count" s_order_count) (G_need_both : Cl P w K mg base 4 "need_both" spNeedBoth) (G_count_in : Cl P w K mg base 9 "count_in" (spCount 7)) : Cl P w K mg base 10 "order_count" spOrder := by
  refine cl_of hF sc_order_count (fun vs H Q E h => by obtain ⟨a, b, n, es, l, rfl, _⟩ := h; rfl) (fun _ _ _ _ _ _ us hl => match us, hl with | [_, _], _ => rfl) fun f cdv A outer s H vs Q E hr h => ?_
  obtain ⟨a, b, n, es, l, rfl, hW, gw, hL, hl, hc, q⟩ := h
  refine ⟨_, (pss_cons (ps_expr (pc hr G_need_both (by first | decide | omega) (by rfl) (pa_cons (pv 0) (pa_cons (pv 1) pa_nil))))
    (pss_one (ps_ret (pc hr G_count_in (by first | decide | omega) (by rfl) (pa_cons (pv 0) (pa_cons (pv 1) (pa_cons pe_dnewT pa_nil))))))), ?_⟩
  refine ⟨_, rfl, _, rfl, a, b, n, es, l, rfl, hW, gw, hL, hl, hc, fun H1 s1 => ?_⟩
  have n6 := gw.le
  refine ⟨_, rfl, _, rfl, fun kd hkd => ?_⟩
  have s2 : Same H (upd H1 kd (.dT [])) := same_new s1 hkd
  refine ⟨a, b, kd, n, es, l, [], rfl, hW.same s2, gw.few, s2 _ _ hL, by omega, cells_of_le1 hc, fun e he => ?_, ?_, upd_same, Good.nil es, by decide, fun H3 kvs' sx e g z => q H3 (same_sx s2 (s1.free hkd) sx)⟩
  · have := gw.edge e he
    omega
  · have := live_le l
    omega
/-! ### full_layings -/
def spFull : Sp := fun vs H Q _ => ∃ n : Nat, vs = [.int n] ∧ n ≤ 6 ∧ ∀ H' (r : Addr) (ts : List Addr), Same H H' → H r = none → H' r = some (.lst (ts.map V.ref)) → Paired (LayAt H') ts (fl n) → Q (.ref r) H'
theorem LayAt.same {H H' : Hp} (s : Same H H') (a : Addr) (l : List Nat) (h : LayAt H a l) : LayAt H' a l := s _ _ h
abbrev N_full_layings : List Str := ["many", "found", "k", "one", "coin"]
theorem sc_full_layings : FnScope N_full_layings ["many"] (defScope s_full_layings) := ⟨rfl, rfl, rfl, by decide +kernel, rfl, by decide +kernel, by decide +kernel⟩
theorem ok_full_layings (T : Tx mg) (hF : Has K mg "full_layings" s_full_layings) : Cl P w K mg base 1 "full_layings" spFull := by
  refine cl_of hF sc_full_layings (fun vs H Q E h => by obtain ⟨n, rfl, _⟩ := h; rfl) (fun _ _ _ _ _ _ us hl => match us, hl with | [_], _ => rfl) fun f cdv A outer s H vs Q E hr h => ?_
  obtain ⟨n, rfl, n6, q⟩ := h
  refine ⟨_, (pss_cons (ps_set (i := 1) sc_full_layings.nd rfl (.inl rfl) (pe_lst (pa_cons (pe_tup pa_nil) pa_nil)))
    (pss_cons (ps_for PassesOwn.never rfl (pi_range1 (by rfl) T.range_ (pa_cons (pv 0) pa_nil)) (pg_name (i := 2) sc_full_layings.nd rfl (.inl rfl)) (pss_one (ps_setLc2 (i := 1) (own := [("one", 3), ("coin", 4)]) (vs1 := [4]) (g := (gName 3)) (g1 := (gName 4)) (tt := tYes) (tt1 := tYes) rfl sc_full_layings.nd rfl rfl (sw_true rfl rfl rfl (by decide +kernel)) (pi_list (pv 1)) (blkOk_by (own := [("one", 3), ("coin", 4)]) (N := N_full_layings) (sc := defScope s_full_layings) (by decide +kernel)) (by decide) (fun _ _ _ _ _ => (pg_name (i := 3) sc_full_layings.nd rfl (.inl rfl))) (fun _ _ _ _ _ => pts_nil) (fun _ _ _ _ _ => (show PI _ _ _ (iTup K _) from pi_tup (pe_tup (pa_cons pe_int (pa_cons pe_int pa_nil))))) (fun _ _ _ _ _ => (pg_name (i := 4) sc_full_layings.nd rfl (.inl rfl))) (fun _ _ _ _ _ => pts_nil) (fun _ _ _ _ _ => (pe_op (show OpR _ _ (rCatA K) from op_catA) (pv 3) (pe_tup (pa_cons (pv 4) pa_nil)))))))
    (pss_one (ps_ret (pv 1))))), ?_⟩
  refine ⟨(by show 0 ≤ sizeLine; decide), fun t0 h0 => ⟨(by show 1 ≤ sizeLine; decide), fun F0 hF0 => ?_⟩⟩
  have s1 : Same H (upd (upd H t0 (.tup [])) F0 (.lst [.ref t0])) := same_new (same_new1 h0) hF0
  refine ⟨_, rfl, n, rfl, by omega, by omega, ?_⟩
  refine for_it walk_range (fun i σ H' => ∃ r ts y1 y2 y3, σ = [some (.int n), some (.ref r), y1, y2, y3] ∧ Same H H' ∧ H r = none ∧ H' r = some (.lst (ts.map V.ref)) ∧ Paired (LayAt H') ts (fl i))
    ⟨F0, [t0], none, none, none, rfl, s1, (same_new1 h0).free hF0, upd_same, .cons ?_ .nil⟩ (fun i σ H' _ _ => trivial) ?_ ?_
  · show upd _ F0 _ t0 = _
    rw [upd_ne (fun e => by rw [e] at hF0; rw [upd_same] at hF0; cases hF0)]
    exact upd_same
  · rintro i x σ H1 H2 hi ⟨r, ts, y1, y2, y3, rfl, sm, hr0, er, pt⟩ ⟨rfl, ex⟩
    have lt : ts.length = (fl i).length := Paired.length pt
    refine ⟨_, rfl, r, rfl, ⟨_, SqL.of er⟩, fun D hD => ?_⟩
    have nrD : r ≠ D := ne_of_none er hD
    refine in_it (walk_list (K := K) (a := r) (xs := ts.map V.ref)) (fun j H' => ∃ us, Same H2 H' ∧ H' D = some (.lst (us.map V.ref)) ∧ Paired (LayAt H') us (ext ((fl i).take j)))
      ⟨[], same_new1 hD, upd_same, .nil⟩ (fun j H' _ ⟨_, s, _⟩ => SqL.of (s _ _ er)) ?_ ?_
    · rintro j x H3 H4 hj ⟨us, s3, eD, pu⟩ ⟨rfl, ex⟩
      rw [List.length_map] at hj
      have gl : (fl i)[j]? = some (fl i)[j] := List.getElem?_eq_getElem (by omega)
      obtain ⟨t, et, at_⟩ := Paired.getR pt gl
      generalize (fl i)[j] = l at gl at_
      obtain rfl := Option.some.inj ((map_ref_ix et).symm.trans ex)
      have at4 : LayAt H4 t l := s3 _ _ at_
      have l64 : (fl i).length ≤ 64 := by rw [fl_length]; exact pow6 (by omega)
      have i6 : i < 6 := by omega
      have ll : l.length = i := fl_len (List.mem_of_getElem? gl)
      have tkl : (ext ((fl i).take j)).length ≤ 128 := by rw [ext_length, List.length_take]; omega
      refine ⟨rfl, (by show 2 ≤ sizeLine; decide), fun p hp => ?_⟩
      have s4 : Same H4 (upd H4 p (.tup [.int 0, .int 1])) := same_new1 hp
      have up : (upd H4 p (.tup [.int 0, .int 1])) p = some (.tup [.int 0, .int 1]) := upd_same
      have nDp : D ≠ p := ne_of_none eD hp
      generalize upd H4 p (.tup [.int 0, .int 1]) = H4a at s4 up
      refine ⟨p, rfl, ⟨_, SqT.of up⟩, ?_⟩
      refine in_it (walk_tup (K := K) (a := p) (xs := [.int 0, .int 1])) (fun c H' => ∃ us, Same H2 H' ∧ H' p = some (.tup [.int 0, .int 1]) ∧ LayAt H' t l ∧ H' D = some (.lst (us.map V.ref)) ∧ Paired (LayAt H') us (ext ((fl i).take j) ++ [l ++ [0], l ++ [1]].take c))
        ⟨us, s3.trans s4, up, s4 _ _ at4, s4 _ _ eD, ?_⟩ (fun c H' _ ⟨_, _, s, _⟩ => SqT.of s) ?_ ?_
      · rw [List.take_zero, List.append_nil]
        exact Paired.imp (fun t l q => s4 _ _ q) pu
      · rintro c x H5 H6 hc ⟨vs, s5, e5, at5, eD5, pu5⟩ ⟨rfl, ex⟩
        have hc2 : c < 2 := hc
        have ec : x = .int (c : Int) ∧ [l ++ [0], l ++ [1]][c]? = some (l ++ [c]) := by
          rcases (by omega : c = 0 ∨ c = 1) with rfl | rfl
          · exact ⟨(Option.some.inj ex).symm, rfl⟩
          · exact ⟨(Option.some.inj ex).symm, rfl⟩
        obtain ⟨rfl, ec⟩ := ec
        have cc : cellV c = .int (c : Int) := cellV_ne (by omega)
        have fin : ∀ (y : Addr) (H7 : Hp), Same H6 H7 → LayAt H7 y (l ++ [c]) → ∃ acc, H7 D = some (.lst acc) ∧ acc.length < sizeLine ∧ ∃ us, Same H2 (upd H7 D (.lst (acc ++ [V.ref y]))) ∧ (upd H7 D (.lst (acc ++ [V.ref y]))) p = some (.tup [.int 0, .int 1]) ∧ LayAt (upd H7 D (.lst (acc ++ [V.ref y]))) t l ∧
            (upd H7 D (.lst (acc ++ [V.ref y]))) D = some (.lst (us.map V.ref)) ∧ Paired (LayAt (upd H7 D (.lst (acc ++ [V.ref y])))) us (ext ((fl i).take j) ++ [l ++ [0], l ++ [1]].take (c + 1)) := by
          intro y H7 s7 ly
          have eD7 := s7 _ _ eD5
          have lay : ∀ (a : Addr) (m : List Nat), LayAt H7 a m → LayAt (upd H7 D (.lst (vs.map V.ref ++ [V.ref y]))) a m := fun a m q => by
            show upd _ D _ a = _
            rw [upd_ne (fun e => by rw [e] at q; exact absurd (eD7.symm.trans q) (by simp))]
            exact q
          refine ⟨_, eD7, ?_, vs ++ [y], fun b o z => ?_, ?_, lay _ _ (s7 _ _ at5), ?_, ?_⟩
          · have := Paired.length pu5
            rw [List.length_append, List.length_take] at this
            rw [List.length_map]
            exact small1000 (by simp at this; omega)
          · rw [upd_ne (fun e => by rw [e, hD] at z; cases z)]
            exact s7 _ _ (s5 _ _ z)
          · rw [upd_ne (Ne.symm nDp)]
            exact s7 _ _ e5
          · rw [upd_same, List.map_append]; rfl
          · rw [List.take_add_one, ec, ← List.append_assoc]
            exact Paired.snoc (lay _ _ ly) (Paired.imp (fun a m q => lay _ _ (s7 _ _ q)) pu5)
        refine ⟨rfl, _, rfl, _, rfl, (by show 1 ≤ sizeLine; decide), fun u hu => ?_⟩
        have s6 : Same H6 (upd H6 u (.tup [.int (c : Int)])) := same_new1 hu
        refine ⟨t, u, _, _, rfl, rfl, SqT.of (s6 _ _ at5), SqT.of upd_same, ?_, fun e => ?_, fun _ e => (nomatch e), fun _ _ v hv => ?_⟩
        · rw [List.length_map, ll]
          exact Nat.le_of_lt (small1000 (by show i + 1 ≤ 1000; omega))
        · have e0 : l = [] := List.map_eq_nil_iff.mp e
          refine fin u _ s6 ?_
          show upd _ u _ u = _
          rw [upd_same, e0]
          show _ = some (HO.tup [cellV c])
          rw [cc]
        · refine fin v _ (same_new s6 hv) ?_
          show upd _ v _ v = _
          rw [upd_same, List.map_append]
          show _ = some (HO.tup (l.map cellV ++ [cellV c]))
          rw [cc]
      · rintro H5 ⟨vs, s5, e5, at5, eD5, pu5⟩
        refine ⟨vs, s5, eD5, ?_⟩
        rw [ext_take _ j l gl]
        exact pu5
    · rintro H3 ⟨us, s3, eD, pu⟩
      refine ⟨D, us, _, _, _, rfl, sm.trans s3, sm.free hD, eD, ?_⟩
      rw [List.length_map, lt, List.take_of_length_le (Nat.le_refl _)] at pu
      exact pu
  · rintro σ H1 ⟨r, ts, y1, y2, y3, rfl, sm, hr0, er, pt⟩
    rw [Int.toNat_natCast] at pt
    exact ⟨_, rfl, q H1 r ts sm hr0 er pt⟩
end
end Ck

namespace Ck
open PySem PySem.Spec PyProof.Rows L2
def posL (es : List (Nat × Nat)) (ls : List (List Nat)) : List (List Nat) := ls.filter fun l => decide (0 < cnt es l)
theorem posL_take (es : List (Nat × Nat)) (ls : List (List Nat)) (i : Nat) (l : List Nat) (h : ls[i]? = some l) : posL es (ls.take (i + 1)) = if 0 < cnt es l then posL es (ls.take i) ++ [l] else posL es (ls.take i) := by
  unfold posL
  rw [List.take_add_one, h, List.filter_append]
  by_cases c : 0 < cnt es l
  · rw [if_pos c]
    show _ ++ List.filter _ [l] = _
    rw [List.filter_cons_of_pos (by exact decide_eq_true c)]
    rfl
  · rw [if_neg c]
    show _ ++ List.filter _ [l] = _
    rw [List.filter_cons_of_neg (by simp [c])]
    simp
theorem posL_le (es : List (Nat × Nat)) (ls : List (List Nat)) : (posL es ls).length ≤ ls.length := List.length_filter_le _ _
def PairAt (es : List (Nat × Nat)) (H : Hp) (p : Addr) (l : List Nat) : Prop := ∃ t, H p = some (.tup [.int (cnt es l : Nat), .ref t]) ∧ LayAt H t l
theorem PairAt.same {es : List (Nat × Nat)} {H H' : Hp} (s : Same H H') (a : Addr) (l : List Nat) (h : PairAt es H a l) : PairAt es H' a l := by
  obtain ⟨t, h1, h2⟩ := h
  exact ⟨t, s _ _ h1, s _ _ h2⟩
section
variable {P : Program} {w : World} {K : PySem.W.Frag} {mg : Str → Option Value} {base : Heap}
/-- one count of a full laying, with a new table -/
theorem count_one {H : Hp} {a t : Addr} {n : Nat} {es : List (Nat × Nat)} {l : List Nat} {Q : VK} {E : XK} (hW : WebAt H a n es) (gw : GoodWeb n es) (hL : LayAt H t l) (hm : l ∈ fl n) (q : ∀ H', Same H H' → Q (.int (cnt es l : Nat)) H') (kd : Addr) (hkd : H kd = none) :
    spCount 7 [.ref a, .ref t, .ref kd] (upd H kd (.dT [])) Q E := by
  have n6 := gw.le
  have hl := fl_len hm
  have s2 : Same H (upd H kd (.dT [])) := same_new1 hkd
  refine ⟨a, t, kd, n, es, l, [], rfl, hW.same s2, gw.few, s2 _ _ hL, by omega, cells_of_le1 (fl_le1 n l hm), fun e he => ?_, ?_, upd_same, Good.nil es, by decide, fun H3 kvs' sx e g z => q H3 (same_sx s2 hkd sx)⟩
  · have := gw.edge e he
    omega
  · have := live_le l
    omega
/-! ### clearable_in, laying_count -/
def spClear : Sp := fun vs H Q _ => ∃ (a : Addr) (n : Nat) (es : List (Nat × Nat)), vs = [.ref a] ∧ WebAt H a n es ∧ GoodWeb n es ∧ ∀ H' (r : Addr) (xs : List V), Same H H' → H r = none → H' r = some (.lst xs) → xs.length = (posL es (fl n)).length → Q (.ref r) H'
abbrev N_clearable_in : List Str := ["web", "laying"]
theorem sc_clearable_in : FnScope N_clearable_in ["web"] (defScope s_clearable_in) := ⟨rfl, rfl, rfl, by decide +kernel, rfl, by decide +kernel, by decide +kernel⟩
theorem ok_clearable_in (T : Tx mg) (hF : Has K mg "clearable_in" s_clearable_in) (G_full_layings : Cl P w K mg base 1 "full_layings" spFull) (G_count_in : Cl P w K mg base 9 "count_in" (spCount 7)) : Cl P w K mg base 10 "clearable_in" spClear := by
  refine cl_of hF sc_clearable_in (fun vs H Q E h => by obtain ⟨a, n, es, rfl, _⟩ := h; rfl) (fun _ _ _ _ _ _ us hl => match us, hl with | [_], _ => rfl) fun f cdv A outer s H vs Q E hr h => ?_
  obtain ⟨a, n, es, rfl, hW, gw, q⟩ := h
  refine ⟨_, (pss_one (ps_ret (pe_lc (own := [("laying", 1)]) (g := (gName 1)) rfl sc_clearable_in.nd (pi_list (pc hr G_full_layings (by first | decide | omega) (by rfl) (pa_cons (pe_ix ix_tup (pv 0) pe_int (fun _ _ => rfl)) pa_nil))) (blkOk_by (own := [("laying", 1)]) (N := N_clearable_in) (sc := defScope s_clearable_in) (by decide +kernel)) (fun _ _ _ _ _ => (pg_name (i := 1) sc_clearable_in.nd rfl (.inl rfl))) (fun _ _ _ _ _ => (pts_one (pt_cmpR op_gt (pc hr G_count_in (by first | decide | omega) (by rfl) (pa_cons (pv 0) (pa_cons (pv 1) (pa_cons pe_dnewT pa_nil)))) pe_int (nomark _)))) (fun _ _ _ _ _ => (pv 1))))), ?_⟩
  obtain ⟨b, us, h1, h2, h3⟩ := id hW
  have n6 := gw.le
  have l64 : (fl n).length ≤ 64 := by rw [fl_length]; exact pow6 n6
  refine ⟨_, rfl, a, _, 0, .int n, rfl, rfl, SqT.of h1, rfl, n, rfl, n6, fun H1 r ts s1 nr er pt => ⟨r, rfl, ⟨_, SqL.of er⟩, fun D hD => ?_⟩⟩
  have lt : ts.length = (fl n).length := Paired.length pt
  refine lc_it (walk_list (K := K) (a := r) (xs := ts.map V.ref)) (fun i H' => Same H1 H' ∧ ∃ xs, H' D = some (.lst xs) ∧ xs.length = (posL es ((fl n).take i)).length) ⟨same_new1 hD, [], upd_same, rfl⟩ (fun i H' _ ⟨s, _⟩ => SqL.of (s _ _ er)) ?_ ?_
  · rintro i x H2 H3 hi ⟨s3, xs, eD, lx⟩ ⟨rfl, ex⟩
    rw [List.length_map] at hi
    have gl : (fl n)[i]? = some (fl n)[i] := List.getElem?_eq_getElem (by omega)
    obtain ⟨t, et, at_⟩ := Paired.getR pt gl
    generalize (fl n)[i] = l at gl at_
    obtain rfl := Option.some.inj ((map_ref_ix et).symm.trans ex)
    refine ⟨rfl, _, rfl, _, rfl, fun kd hkd => ?_⟩
    dsimp only [tNil]
    refine count_one ((hW.same s1).same s3) gw (s3 _ _ at_) (List.mem_of_getElem? gl) (fun H4 s4 => ?_) kd hkd
    refine ⟨_, 0, rfl, rfl, _, rfl, ite2 (fun c => ?_) (fun c => ?_)⟩
    · have c1 : 0 < cnt es l := by have := of_decide_eq_true c; omega
      refine ⟨_, rfl, _, s4 _ _ eD, ?_, fun b o z => ?_, _, upd_same, ?_⟩
      · have := posL_le es ((fl n).take i)
        rw [List.length_take] at this
        exact small1000 (by omega)
      · rw [upd_ne (fun e => by rw [e, hD] at z; cases z)]
        exact s4 _ _ (s3 _ _ z)
      · rw [posL_take es _ i l gl, if_pos c1, List.length_append, List.length_append, lx]
        rfl
    · have c1 : ¬ 0 < cnt es l := fun z => c (decide_eq_true (by omega))
      refine ⟨s3.trans s4, xs, s4 _ _ eD, ?_⟩
      rw [posL_take es _ i l gl, if_neg c1, lx]
  · rintro H2 ⟨s2, xs, eD, lx⟩
    rw [List.length_map, lt, List.take_of_length_le (Nat.le_refl _)] at lx
    exact q H2 D xs (s1.trans s2) (s1.free hD) eD lx
def spLayCount : Sp := fun vs H Q _ => ∃ (a : Addr) (n : Nat) (es : List (Nat × Nat)), vs = [.ref a] ∧ WebAt H a n es ∧ GoodWeb n es ∧ ∀ H', Same H H' → Q (.int ((posL es (fl n)).length : Nat)) H'
abbrev N_laying_count : List Str := ["web"]
theorem sc_laying_count : FnScope N_laying_count ["web"] (defScope s_laying_count) := ⟨rfl, rfl, rfl, by decide +kernel, rfl, by decide +kernel, by decide +kernel⟩
theorem ok_laying_count (T : Tx mg) (hF : Has K mg "laying_count" s_laying_count) (G_need_web : Cl P w K mg base 3 "need_web" spNeedWeb) (G_clearable_in : Cl P w K mg base 10 "clearable_in" spClear) : Cl P w K mg base 11 "laying_count" spLayCount := by
  refine cl_of hF sc_laying_count (fun vs H Q E h => by obtain ⟨a, n, es, rfl, _⟩ := h; rfl) (fun _ _ _ _ _ _ us hl => match us, hl with | [_], _ => rfl) fun f cdv A outer s H vs Q E hr h => ?_
  obtain ⟨a, n, es, rfl, hW, gw, q⟩ := h
  refine ⟨_, (pss_cons (ps_expr (pc hr G_need_web (by first | decide | omega) (by rfl) (pa_cons (pv 0) pa_nil)))
    (pss_one (ps_ret (pe_callB call_len_seq (by rfl) T.len_ PySem.boot_len (pa_cons (pc hr G_clearable_in (by first | decide | omega) (by rfl) (pa_cons (pv 0) pa_nil)) pa_nil))))), ?_⟩
  refine ⟨_, rfl, a, n, es, rfl, hW, gw, fun H1 s1 => ?_⟩
  refine ⟨_, rfl, a, n, es, rfl, hW.same s1, gw, fun H2 r xs s2 nr er lx => ?_⟩
  refine ⟨r, xs, rfl, .inl (SqL.of er), ?_⟩
  rw [lx]
  exact q H2 (s1.trans s2)
/-! ### is_even -/
def spEven : Sp := fun vs H Q _ => ∃ (a b : Addr) (n : Nat) (es : List (Nat × Nat)) (l : List Nat), vs = [.ref a, .ref b] ∧ WebAt H a n es ∧ GoodWeb n es ∧ LayAt H b l ∧ l ∈ fl n ∧ ∀ H', Same H H' → Q (.bl (decide ((heads l).length % 2 = (n + es.length) % 2))) H'
abbrev N_is_even : List Str := ["web", "laying"]
theorem sc_is_even : FnScope N_is_even ["web", "laying"] (defScope s_is_even) := ⟨rfl, rfl, rfl, by decide +kernel, rfl, by decide +kernel, by decide +kernel⟩
theorem ok_is_even (T : Tx mg) (hF : Has K mg "is_even" s_is_even) (G_need_both : Cl P w K mg base 4 "need_both" spNeedBoth) (G_heads_in : Cl P w K mg base 1 "heads_in" spHeads) : Cl P w K mg base 5 "is_even" spEven := by
  refine cl_of hF sc_is_even (fun vs H Q E h => by obtain ⟨a, b, n, es, l, rfl, _⟩ := h; rfl) (fun _ _ _ _ _ _ us hl => match us, hl with | [_, _], _ => rfl) fun f cdv A outer s H vs Q E hr h => ?_
  obtain ⟨a, b, n, es, l, rfl, hW, gw, hL, hm, q⟩ := h
  refine ⟨_, (pss_cons (ps_expr (pc hr G_need_both (by first | decide | omega) (by rfl) (pa_cons (pv 0) (pa_cons (pv 1) pa_nil))))
    (pss_one (ps_ret (pe_cmpR op_eq (pe_op op_mod (pe_callB call_len_seq (by rfl) T.len_ PySem.boot_len (pa_cons (pc hr G_heads_in (by first | decide | omega) (by rfl) (pa_cons (pv 1) pa_nil)) pa_nil)) pe_int) (pe_op op_mod (pe_op op_add (pe_ix ix_tup (pv 0) pe_int (fun _ _ => rfl)) (pe_callB call_len_seq (by rfl) T.len_ PySem.boot_len (pa_cons (pe_ix ix_tup (pv 0) pe_int (fun _ _ => rfl)) pa_nil))) pe_int) (nomark _))))), ?_⟩
  have n6 := gw.le
  have hl := fl_len hm
  refine ⟨_, rfl, _, rfl, a, b, n, es, l, rfl, hW, gw, hL, hl, fl_le1 n l hm, fun H1 s1 => ?_⟩
  refine ⟨_, rfl, b, l, rfl, s1 _ _ hL, by omega, fun H2 r s2 nr er => ?_⟩
  obtain ⟨b', us, h1, h2, h3⟩ := id ((hW.same s1).same s2)
  have lu : us.length = es.length := Paired.length h3
  refine ⟨r, _, rfl, .inl (SqL.of er), _, 2, rfl, rfl, (by show (0 : Int) < 2; decide), _, rfl, a, _, 0, .int n, rfl, rfl, SqT.of h1, rfl, _, rfl, a, _, 1, .ref b', rfl, rfl, SqT.of h1, rfl, b', _, rfl, .inr (SqT.of h2), _, _, rfl, rfl, _, 2, rfl, rfl, (by show (0 : Int) < 2; decide), rfl, ?_⟩
  have e : decide (V.int (((nV (heads l)).length : Int) % 2) = V.int (((n : Int) + ((us.map V.ref).length : Nat)) % 2)) = decide ((heads l).length % 2 = (n + es.length) % 2) := by
    rw [Bool.eq_iff_iff, decide_eq_true_eq, decide_eq_true_eq, nV_length, List.length_map, lu]
    constructor
    · intro z
      injection z with z
      omega
    · intro z
      congr 1
      omega
  have z := q H2 (s1.trans s2)
  rw [← e] at z
  exact z
/-! ### counts_in -/
def spCounts : Sp := fun vs H Q _ => ∃ (a : Addr) (n : Nat) (es : List (Nat × Nat)), vs = [.ref a] ∧ WebAt H a n es ∧ GoodWeb n es ∧ ∀ H' (r : Addr) (ps : List Addr), Same H H' → H r = none → H' r = some (.lst (ps.map V.ref)) → Paired (PairAt es H') ps (fl n) → Q (.ref r) H'
abbrev N_counts_in : List Str := ["web", "laying"]
theorem sc_counts_in : FnScope N_counts_in ["web"] (defScope s_counts_in) := ⟨rfl, rfl, rfl, by decide +kernel, rfl, by decide +kernel, by decide +kernel⟩
theorem ok_counts_in (T : Tx mg) (hF : Has K mg "counts_in" s_counts_in) (G_full_layings : Cl P w K mg base 1 "full_layings" spFull) (G_count_in : Cl P w K mg base 9 "count_in" (spCount 7)) : Cl P w K mg base 10 "counts_in" spCounts := by
  refine cl_of hF sc_counts_in (fun vs H Q E h => by obtain ⟨a, n, es, rfl, _⟩ := h; rfl) (fun _ _ _ _ _ _ us hl => match us, hl with | [_], _ => rfl) fun f cdv A outer s H vs Q E hr h => ?_
  obtain ⟨a, n, es, rfl, hW, gw, q⟩ := h
  refine ⟨_, (pss_one (ps_ret (pe_lc (own := [("laying", 1)]) (g := (gName 1)) (tt := tYes) rfl sc_counts_in.nd (pi_list (pc hr G_full_layings (by first | decide | omega) (by rfl) (pa_cons (pe_ix ix_tup (pv 0) pe_int (fun _ _ => rfl)) pa_nil))) (blkOk_by (own := [("laying", 1)]) (N := N_counts_in) (sc := defScope s_counts_in) (by decide +kernel)) (fun _ _ _ _ _ => (pg_name (i := 1) sc_counts_in.nd rfl (.inl rfl))) (fun _ _ _ _ _ => pts_nil) (fun _ _ _ _ _ => (pe_tup (pa_cons (pc hr G_count_in (by first | decide | omega) (by rfl) (pa_cons (pv 0) (pa_cons (pv 1) (pa_cons pe_dnewT pa_nil)))) (pa_cons (pv 1) pa_nil))))))), ?_⟩
  obtain ⟨b, us, h1, h2, h3⟩ := id hW
  have n6 := gw.le
  have l64 : (fl n).length ≤ 64 := by rw [fl_length]; exact pow6 n6
  refine ⟨_, rfl, a, _, 0, .int n, rfl, rfl, SqT.of h1, rfl, n, rfl, n6, fun H1 r ts s1 nr er pt => ⟨r, rfl, ⟨_, SqL.of er⟩, fun D hD => ?_⟩⟩
  have lt : ts.length = (fl n).length := Paired.length pt
  refine lc_it (walk_list (K := K) (a := r) (xs := ts.map V.ref)) (fun i H' => Same H1 H' ∧ ∃ ps, H' D = some (.lst (ps.map V.ref)) ∧ Paired (PairAt es H') ps ((fl n).take i)) ⟨same_new1 hD, [], upd_same, .nil⟩ (fun i H' _ ⟨s, _⟩ => SqL.of (s _ _ er)) ?_ ?_
  · rintro i x H2 H3 hi ⟨s3, ps, eD, pp⟩ ⟨rfl, ex⟩
    rw [List.length_map] at hi
    have gl : (fl n)[i]? = some (fl n)[i] := List.getElem?_eq_getElem (by omega)
    obtain ⟨t, et, at_⟩ := Paired.getR pt gl
    generalize (fl n)[i] = l at gl at_
    obtain rfl := Option.some.inj ((map_ref_ix et).symm.trans ex)
    refine ⟨rfl, _, rfl, _, rfl, fun kd hkd => ?_⟩
    dsimp only [tNil]
    refine count_one ((hW.same s1).same s3) gw (s3 _ _ at_) (List.mem_of_getElem? gl) (fun H4 s4 => ?_) kd hkd
    refine ⟨_, rfl, (by show 2 ≤ sizeLine; decide), fun p hp => ?_⟩
    have s5 : Same H4 (upd H4 p (.tup [.int (cnt es l : Nat), .ref t])) := same_new1 hp
    have ep : (upd H4 p (.tup [.int (cnt es l : Nat), .ref t])) p = some (.tup [.int (cnt es l : Nat), .ref t]) := upd_same
    generalize upd H4 p (.tup [.int (cnt es l : Nat), .ref t]) = H5 at s5 ep
    have s35 : Same H1 H5 := (s3.trans s4).trans s5
    have eD5 := s5 _ _ (s4 _ _ eD)
    have tn : ∀ {x : Addr} {ys : List V}, H5 x = some (.tup ys) → (upd H5 D (.lst (ps.map V.ref ++ [V.ref p]))) x = some (.tup ys) := fun {x ys} z => by
      rw [upd_ne (fun e => by rw [e, eD5] at z; cases z)]
      exact z
    refine ⟨_, eD5, ?_, fun b o z => ?_, ps ++ [p], ?_, ?_⟩
    · have := Paired.length pp
      rw [List.length_take] at this
      rw [List.length_map]
      exact small1000 (by omega)
    · rw [upd_ne (fun e => by rw [e, hD] at z; cases z)]
      exact s35 _ _ z
    · rw [upd_same, List.map_append]; rfl
    · rw [List.take_add_one, gl]
      refine Paired.snoc ⟨t, tn ep, tn (s35 _ _ at_)⟩ (Paired.imp (fun x m q => ?_) pp)
      obtain ⟨t', q1, q2⟩ := PairAt.same (s4.trans s5) x m q
      exact ⟨t', tn q1, tn q2⟩
  · rintro H2 ⟨s2, ps, eD, pp⟩
    rw [List.length_map, lt, List.take_of_length_le (Nat.le_refl _)] at pp
    exact q H2 D ps (s1.trans s2) (s1.free hD) eD pp
end
end Ck

namespace Ck
open PySem PySem.Spec PyProof.Rows L2
/-! ### counting numbers in a dict -/
def nk (k : Nat) : Key := Sum.inl (k : Int)
theorem nk_inj {a b : Nat} (h : nk a = nk b) : a = b := by
  unfold nk at h
  injection h with h
  omega
structure Tal (kvs : List (Key × V)) (ks cs : List Nat) : Prop where
  keys : kvs.map (·.1) = ks.map nk
  nd : ks.Nodup
  mem : ∀ k, k ∈ ks ↔ k ∈ cs
  val : ∀ k, valV kvs (nk k) = if k ∈ cs then some (.int (cs.count k : Nat)) else none
  le : kvs.length ≤ cs.length
theorem Tal.nil : Tal [] [] [] := ⟨rfl, .nil, fun _ => Iff.rfl, fun _ => by simp [valV_nil], Nat.le_refl _⟩
theorem Tal.get {kvs : List (Key × V)} {ks cs : List Nat} (t : Tal kvs ks cs) (k : Nat) : (valV kvs (nk k)).getD (.int 0) = .int (cs.count k : Nat) := by
  rw [t.val]
  by_cases h : k ∈ cs
  · rw [if_pos h]; rfl
  · rw [if_neg h, List.count_eq_zero_of_not_mem h]; rfl
theorem Tal.put {kvs : List (Key × V)} {ks cs : List Nat} (t : Tal kvs ks cs) (c : Nat) (n : Int) (hn : n = (cs.count c : Nat) + 1) : ∃ ks', Tal (putK kvs (nk c) (.int n)) ks' (cs ++ [c]) := by
  subst hn
  have val : ∀ k, valV (putK kvs (nk c) (.int ((cs.count c : Nat) + 1))) (nk k) = if k ∈ cs ++ [c] then some (.int ((cs ++ [c]).count k : Nat)) else none := by
    intro k
    rw [valV_put]
    by_cases e : k = c
    · subst e
      rw [if_pos rfl, if_pos (by simp), List.count_append, List.count_singleton_self]
      rfl
    · rw [if_neg (fun z => e (nk_inj z)), t.val, List.count_append, List.count_singleton]
      have hb : (c == k) = false := by rw [beq_eq_false_iff_ne]; exact fun z => e z.symm
      rw [hb]
      by_cases h : k ∈ cs
      · rw [if_pos h, if_pos (List.mem_append_left _ h)]
        rfl
      · rw [if_neg h, if_neg (fun z => by
          rcases List.mem_append.mp z with z | z
          · exact h z
          · exact e (List.mem_singleton.mp z))]
  have le : (putK kvs (nk c) (.int ((cs.count c : Nat) + 1))).length ≤ (cs ++ [c]).length := by
    have a := length_putK kvs (nk c) (.int ((cs.count c : Nat) + 1))
    have b := t.le
    rw [List.length_append, List.length_singleton]
    omega
  by_cases h : c ∈ cs
  · refine ⟨ks, ?_, t.nd, fun k => ?_, val, le⟩
    · rw [← t.keys]
      unfold putK
      rw [if_pos (by rw [valV_any, t.val, if_pos h]; rfl), List.map_map]
      apply List.map_congr_left
      intro kv _
      show (if kv.1 = nk c then (kv.1, _) else kv).1 = kv.1
      split <;> rfl
    · rw [t.mem, List.mem_append, List.mem_singleton]
      constructor
      · exact .inl
      · rintro (z | rfl)
        · exact z
        · exact h
  · refine ⟨ks ++ [c], ?_, ?_, fun k => ?_, val, le⟩
    · rw [putK_new _ (by rw [t.val, if_neg h]), List.map_append, List.map_append, t.keys]
      rfl
    · rw [List.nodup_append]
      refine ⟨t.nd, by simp, fun a ha b hb => ?_⟩
      rw [List.mem_singleton.mp hb]
      exact fun z => h ((t.mem c).mp (z ▸ ha))
    · rw [List.mem_append, List.mem_append, t.mem]
theorem sort_nat {ks : List Nat} {ks' : List Int} (hp : ks'.Perm (ks.map fun k : Nat => (k : Int))) (hs : ks'.Pairwise (· ≤ ·)) (nd : ks.Nodup) : ∃ qs : List Nat, ks' = qs.map (fun k : Nat => (k : Int)) ∧ qs.Pairwise (· < ·) ∧ qs.Perm ks := by
  have nn : ∀ k ∈ ks', 0 ≤ k := fun k hk => by
    obtain ⟨m, _, rfl⟩ := List.mem_map.mp (hp.mem_iff.mp hk)
    omega
  have en : ks' = (ks'.map Int.toNat).map fun k : Nat => (k : Int) := by
    rw [List.map_map]
    conv => lhs; rw [← List.map_id ks']
    apply List.map_congr_left
    intro k hk
    have := nn k hk
    show k = ((k.toNat : Nat) : Int)
    omega
  have pm : (ks'.map Int.toNat).Perm ks := by
    have := hp.map Int.toNat
    rw [List.map_map] at this
    have e2 : List.map (Int.toNat ∘ fun k : Nat => (k : Int)) ks = ks := by
      conv => rhs; rw [← List.map_id ks]
      apply List.map_congr_left
      intro k _
      rfl
    rw [e2] at this
    exact this
  refine ⟨ks'.map Int.toNat, en, ?_, pm⟩
  have nd2 : (ks'.map Int.toNat).Nodup := pm.symm.nodup nd
  have le2 : (ks'.map Int.toNat).Pairwise (· ≤ ·) := by
    rw [List.pairwise_map]
    exact hs.imp fun {a b} h => by omega
  have both := List.Pairwise.and le2 nd2
  exact both.imp fun {a b} h => Nat.lt_of_le_of_ne h.1 h.2
def RowAt (H : Hp) (cs : List Nat) (p : Addr) (k : Nat) : Prop := H p = some (.tup [.int k, .int (cs.count k : Nat)])
def TabAt (H : Hp) (r : Addr) (cs : List Nat) : Prop := ∃ (ps : List Addr) (ks : List Nat), H r = some (.tup (ps.map V.ref)) ∧ Paired (RowAt H cs) ps ks ∧ ks.Pairwise (· < ·) ∧ ∀ k, k ∈ ks ↔ k ∈ cs
theorem TabAt.same {H H' : Hp} {r : Addr} {cs : List Nat} (s : Same H H') (h : TabAt H r cs) : TabAt H' r cs := by
  obtain ⟨ps, ks, h1, h2, h3, h4⟩ := h
  exact ⟨ps, ks, s _ _ h1, Paired.imp (fun _ _ q => s _ _ q) h2, h3, h4⟩
section
variable {P : Program} {w : World} {K : PySem.W.Frag} {mg : Str → Option Value} {base : Heap}
/-! ### layings_by_count -/
def spByCount : Sp := fun vs H Q _ => ∃ (a : Addr) (n : Nat) (es : List (Nat × Nat)), vs = [.ref a] ∧ WebAt H a n es ∧ GoodWeb n es ∧ ∀ H' (r : Addr), Same H H' → TabAt H' r ((fl n).map (cnt es)) → Q (.ref r) H'
abbrev N_layings_by_count : List Str := ["web", "found", "count", "laying"]
theorem sc_layings_by_count : FnScope N_layings_by_count ["web"] (defScope s_layings_by_count) := ⟨rfl, rfl, rfl, by decide +kernel, rfl, by decide +kernel, by decide +kernel⟩
theorem ok_layings_by_count (T : Tx mg) (hF : Has K mg "layings_by_count" s_layings_by_count) (G_need_web : Cl P w K mg base 3 "need_web" spNeedWeb) (G_counts_in : Cl P w K mg base 10 "counts_in" spCounts) : Cl P w K mg base 11 "layings_by_count" spByCount := by
  refine cl_of hF sc_layings_by_count (fun vs H Q E h => by obtain ⟨a, n, es, rfl, _⟩ := h; rfl) (fun _ _ _ _ _ _ us hl => match us, hl with | [_], _ => rfl) fun f cdv A outer s H vs Q E hr h => ?_
  obtain ⟨a, n, es, rfl, hW, gw, q⟩ := h
  refine ⟨_, (pss_cons (ps_expr (pc hr G_need_web (by first | decide | omega) (by rfl) (pa_cons (pv 0) pa_nil)))
    (pss_cons (ps_set (i := 1) sc_layings_by_count.nd rfl (.inr rfl) pe_dnewK)
    (pss_cons (ps_for PassesOwn.never rfl (pi_list (pc hr G_counts_in (by first | decide | omega) (by rfl) (pa_cons (pv 0) pa_nil))) (pg_tup rfl (pgs_cons (pg_name (i := 2) sc_layings_by_count.nd rfl (.inl rfl)) (pgs_cons (pg_name (i := 3) sc_layings_by_count.nd rfl (.inl rfl)) pgs_nil))) (pss_one (ps_dput (hu_of hr) (pv 1) (pv 2) (pe_op op_add (pe_dget2 (hu_of hr) (pv 1) (pv 2) pe_int ⟨rfl, rfl, rfl, rfl⟩) pe_int) rfl)))
    (pss_one (ps_ret (pe_callTy call_tuple_of (by rfl) T.tuple_ boot_tuple (pa_cons (pe_lc (own := [("count", 2)]) (g := (gName 2)) (tt := tYes) rfl sc_layings_by_count.nd (pi_list (pe_callB (cr_sortedKI rfl hr.units) (by rfl) T.sorted_ boot_sorted (pa_cons (pe_keys (pv 1)) pa_nil))) (blkOk_by (own := [("count", 2)]) (N := N_layings_by_count) (sc := defScope s_layings_by_count) (by decide +kernel)) (fun _ _ _ _ _ => (pg_name (i := 2) sc_layings_by_count.nd rfl (.inl rfl))) (fun _ _ _ _ _ => pts_nil) (fun _ _ _ _ _ => (pe_tup (pa_cons (pv 2) (pa_cons (pe_dget (hu_of hr) (pv 1) (pv 2) (fun _ _ => rfl)) pa_nil))))) pa_nil))))))), ?_⟩
  have n6 := gw.le
  have l64 : (fl n).length ≤ 64 := by rw [fl_length]; exact pow6 n6
  refine ⟨_, rfl, a, n, es, rfl, hW, gw, fun H1 s1 kd hkd => ?_⟩
  have s2 : Same H (upd H1 kd (.dK [])) := same_new s1 hkd
  refine ⟨_, rfl, a, n, es, rfl, hW.same s2, gw, fun H3 r ps s3 nr er pp => ?_⟩
  have lp : ps.length = (fl n).length := Paired.length pp
  have kr : r ≠ kd := fun z => by rw [z, upd_same] at nr; cases nr
  refine ⟨r, rfl, ⟨_, SqL.of er⟩, ?_⟩
  refine for_it (walk_list (K := K) (a := r) (xs := ps.map V.ref)) (fun i σ H' => ∃ y2 y3 kvs ks, σ = [some (.ref a), some (.ref kd), y2, y3] ∧ SX kd H3 H' ∧ H' kd = some (.dK kvs) ∧ Tal kvs ks (((fl n).take i).map (cnt es)))
    ⟨none, none, [], [], rfl, SX.of (Same.refl _), s3 _ _ upd_same, Tal.nil⟩ (fun i σ H' _ ⟨_, _, _, _, _, s, _⟩ => SqL.of (s _ _ kr er)) ?_ ?_
  · rintro i x σ H4 H5 hi ⟨y2, y3, kvs, ks, rfl, sx, e, t⟩ ⟨rfl, ex⟩
    rw [List.length_map] at hi
    have gl : (fl n)[i]? = some (fl n)[i] := List.getElem?_eq_getElem (by omega)
    obtain ⟨p, et, tl, hp, hl⟩ := Paired.getR pp gl
    generalize (fl n)[i] = l at gl hp hl
    obtain rfl := Option.some.inj ((map_ref_ix et).symm.trans ex)
    have pk : p ≠ kd := fun z => by rw [z, s3 _ _ upd_same] at hp; cases hp
    have hp5 := sx _ _ pk hp
    refine ⟨p, _, rfl, SqT.of hp5, rfl, _, [_], rfl, _, [], rfl, rfl, ?_⟩
    refine ⟨_, rfl, kd, rfl, .inl ⟨_, .inl e⟩, _, rfl, _, DGet.k (k := nk (cnt es l)) e, _, 1, t.get _, rfl, _, rfl, _, rfl, kd, _, rfl, DPut.k (k := nk (cnt es l)) e (small1000 ?_), ?_⟩
    · have := t.le
      rw [List.length_map, List.length_take] at this
      omega
    · obtain ⟨ks', t'⟩ := t.put (cnt es l) _ rfl
      refine ⟨_, _, _, ks', rfl, fun b o nb z => ?_, upd_same, ?_⟩
      · rw [upd_ne nb]
        exact sx _ _ nb z
      · rw [List.take_add_one, gl, List.map_append]
        exact t'
  · rintro σ H4 ⟨y2, y3, kvs, ks, rfl, sx, e, t⟩
    rw [List.length_map, lp, List.take_of_length_le (Nat.le_refl _)] at t
    have sm4 : Same H H4 := same_sx (s2.trans s3) (s1.free hkd) sx
    have sm : Same H1 H4 := fun b o z => sx _ _ (ne_of_none z hkd) (s3 _ _ (by rw [upd_ne (ne_of_none z hkd)]; exact z))
    have kl : ks.length ≤ 64 := by
      have h1 : (kvs.map (·.1)).length = (ks.map nk).length := by rw [t.keys]
      have h2 := t.le
      rw [List.length_map, List.length_map] at h1
      rw [List.length_map] at h2
      omega
    generalize hcs : (fl n).map (cnt es) = cs at t q
    refine ⟨_, rfl, kd, rfl, .inl ⟨_, e⟩, fun v hv => ?_⟩
    have nkv : kd ≠ v := ne_of_none e hv
    have sv : Same H4 (upd H4 v (keysO v kd)) := same_new1 hv
    refine ⟨v, kd, kvs, ks.map (fun k : Nat => (k : Int)), rfl, upd_same, sv _ _ e, ?_, fun ks' p hp hs hpn => ?_⟩
    · rw [t.keys, List.map_map]
      rfl
    obtain ⟨qs, rfl, asc, pm⟩ := sort_nat hp hs t.nd
    have sp : Same H4 (upd (upd H4 v (keysO v kd)) p (.lst ((qs.map fun k : Nat => (k : Int)).map V.int))) := same_new sv hpn
    have ep : (upd (upd H4 v (keysO v kd)) p (.lst ((qs.map fun k : Nat => (k : Int)).map V.int))) p = some (.lst (nV qs)) := by rw [upd_same, nV_ints]
    generalize upd (upd H4 v (keysO v kd)) p (.lst ((qs.map fun k : Nat => (k : Int)).map V.int)) = H5 at sp ep
    have ql : qs.length ≤ 64 := by rw [pm.length_eq]; exact kl
    have e5 := sp _ _ e
    refine ⟨p, rfl, ⟨_, SqL.of ep⟩, fun D hD => ?_⟩
    have nkD : kd ≠ D := ne_of_none e5 hD
    refine lc_it (walk_list (K := K) (a := p) (xs := nV qs)) (fun i H' => Same H5 H' ∧ ∃ us, H' D = some (.lst (us.map V.ref)) ∧ Paired (RowAt H' cs) us (qs.take i)) ⟨same_new1 hD, [], upd_same, .nil⟩ (fun i H' _ ⟨s, _⟩ => SqL.of (s _ _ ep)) ?_ ?_
    · rintro i x H6' H6 hi ⟨s6, us, eD, pu⟩ ⟨rfl, ex⟩
      rw [nV_length] at hi
      have gk : qs[i]? = some qs[i] := List.getElem?_eq_getElem hi
      have hk : qs[i] ∈ cs := (t.mem _).mp (pm.mem_iff.mp (List.getElem_mem hi))
      generalize qs[i] = k at gk hk
      obtain rfl := Option.some.inj ((nV_ix gk).symm.trans ex)
      have vk : valV kvs (nk k) = some (.int (cs.count k : Nat)) := by rw [t.val, if_pos hk]
      refine ⟨rfl, _, rfl, _, rfl, _, rfl, kd, _, rfl, by rw [← vk]; exact DGet.k (k := nk k) (s6 _ _ e5), (by show 2 ≤ sizeLine; decide), fun u hu => ?_⟩
      have s7 : Same H6 (upd H6 u (.tup [.int (k : Int), .int (cs.count k : Nat)])) := same_new1 hu
      have eu : (upd H6 u (.tup [.int (k : Int), .int (cs.count k : Nat)])) u = some (.tup [.int (k : Int), .int (cs.count k : Nat)]) := upd_same
      generalize upd H6 u (.tup [.int (k : Int), .int (cs.count k : Nat)]) = H7 at s7 eu
      have eD7 := s7 _ _ eD
      have tn : ∀ {x : Addr} {ys : List V}, H7 x = some (.tup ys) → (upd H7 D (.lst (us.map V.ref ++ [V.ref u]))) x = some (.tup ys) := fun {x ys} z => by
        rw [upd_ne (fun e => by rw [e, eD7] at z; cases z)]
        exact z
      refine ⟨_, eD7, ?_, fun b o z => ?_, us ++ [u], ?_, ?_⟩
      · have := Paired.length pu
        rw [List.length_take] at this
        rw [List.length_map]
        exact small1000 (by omega)
      · rw [upd_ne (fun e => by rw [e, hD] at z; cases z)]
        exact s7 _ _ (s6 _ _ z)
      · rw [upd_same, List.map_append]; rfl
      · rw [List.take_add_one, gk]
        exact Paired.snoc (F := RowAt _ cs) (tn eu) (Paired.imp (fun x m q => tn (s7 _ _ q)) pu)
    · rintro H6 ⟨s6, us, eD, pu⟩
      rw [nV_length, List.take_of_length_le (Nat.le_refl _)] at pu
      refine ⟨D, _, rfl, .inl ⟨SqL.of eD, fun t' ht' => ?_⟩⟩
      have s7 : Same H6 (upd H6 t' (.tup (us.map V.ref))) := same_new1 ht'
      refine q _ t' (((sm4.trans sp).trans s6).trans s7) ⟨us, qs, upd_same, Paired.imp (fun _ _ q => s7 _ _ q) pu, asc, fun k => ?_⟩
      rw [pm.mem_iff, t.mem]
end
end Ck

namespace Ck
open PySem PySem.Spec PyProof.Rows L2
open PySem.W (AlikeAll minD dataLt dataLt_pair dataLt_int alike_ints depth_ints)
/-! ### the least of pairs of a number and a row -/
def pD {α : Type} (c : α → Int) (g : α → List Int) (x : α) : PyData := .tuple [.int (c x), .tuple ((g x).map PyData.int)]
theorem pD_inj {α : Type} {c : α → Int} {g : α → List Int} {x y : α} (h : pD c g x = pD c g y) : c x = c y := by
  unfold pD at h
  injection h with h
  injection h with h _
  injection h
theorem alike_pD {α : Type} (c : α → Int) (g : α → List Int) (x y : α) : PySem.W.alike (pD c g x) (pD c g y) = true := by
  simp [pD, PySem.W.alike, PySem.W.alikeAll, alike_ints]
theorem alikeAll_pD {α : Type} (c : α → Int) (g : α → List Int) (xs : List α) : AlikeAll (xs.map (pD c g)) := by
  refine ⟨fun x hx y hy => ?_, fun x hx => ?_⟩
  · obtain ⟨a, _, rfl⟩ := List.mem_map.mp hx
    obtain ⟨b, _, rfl⟩ := List.mem_map.mp hy
    exact alike_pD c g a b
  · obtain ⟨a, _, rfl⟩ := List.mem_map.mp hx
    exact fun z => by unfold pD at z; cases z
theorem depth_pD {α : Type} (c : α → Int) (g : α → List Int) : ∀ xs : List α, PyData.depthAll (xs.map (pD c g)) ≤ 3
  | [] => by simp [PyData.depthAll]
  | x :: xs => by
    have ih := depth_pD c g xs
    rw [List.map_cons, PyData.depthAll]
    have e : PyData.depth (pD c g x) ≤ 3 := by
      simp [pD, PyData.depth, PyData.depthAll, depth_ints]
    omega
theorem lt_pD {α : Type} (c : α → Int) (g : α → List Int) (x y : α) : (dataLt (pD c g x) (pD c g y) = true → c x ≤ c y) ∧ (¬ dataLt (pD c g x) (pD c g y) = true → c y ≤ c x) := by
  unfold pD
  rw [dataLt_pair (by simp [PySem.W.alike]) (by simp [PySem.W.alike, alike_ints]), dataLt_int]
  have e : PyData.eqv (.int (c x)) (.int (c y)) = decide (c x = c y) := by
    rw [PyData.eqv]
    rfl
  rw [e]
  by_cases h : c x = c y
  · exact ⟨fun _ => by omega, fun _ => by omega⟩
  · rw [if_neg (by simpa using h)]
    refine ⟨fun z => ?_, fun z => ?_⟩
    · have := of_decide_eq_true z
      omega
    · have : ¬ c x < c y := fun q => z (decide_eq_true q)
      omega
theorem min_pD {α : Type} (c : α → Int) (g : α → List Int) : ∀ (xs : List α) (x : α), ∃ y, minD (pD c g x) (xs.map (pD c g)) = pD c g y ∧ ∀ z ∈ x :: xs, c y ≤ c z
  | [], x => ⟨x, rfl, fun z hz => by rw [List.mem_singleton.mp hz]; exact Int.le_refl _⟩
  | a :: xs, x => by
    have st : minD (pD c g x) ((a :: xs).map (pD c g)) = minD (if dataLt (pD c g a) (pD c g x) then pD c g a else pD c g x) (xs.map (pD c g)) := rfl
    have lt := lt_pD c g a x
    rw [st]
    by_cases h : dataLt (pD c g a) (pD c g x) = true
    · rw [if_pos h]
      obtain ⟨y, e, m⟩ := min_pD c g xs a
      refine ⟨y, e, fun z hz => ?_⟩
      rcases List.mem_cons.mp hz with rfl | hz
      · exact Int.le_trans (m a List.mem_cons_self) (lt.1 h)
      · exact m z hz
    · rw [if_neg h]
      obtain ⟨y, e, m⟩ := min_pD c g xs x
      refine ⟨y, e, fun z hz => ?_⟩
      rcases List.mem_cons.mp hz with rfl | hz
      · exact m z List.mem_cons_self
      · rcases List.mem_cons.mp hz with rfl | hz
        · exact Int.le_trans (m x List.mem_cons_self) (lt.2 h)
        · exact m z (List.mem_cons_of_mem _ hz)
theorem lay_ints {l : List Nat} (h : ∀ c ∈ l, c ≤ 1) : l.map cellV = (l.map fun k : Nat => (k : Int)).map V.int := by
  rw [List.map_map]
  apply List.map_congr_left
  intro c hc
  exact cellV_ne (by have := h c hc; omega)
section
variable {P : Program} {w : World} {K : PySem.W.Frag} {mg : Str → Option Value} {base : Heap}
/-- a pair of a number and a row of ints -/
theorem dp_pD {α : Type} {c : α → Int} {g : α → List Int} {H : Hp} {x : α} {p t : Addr} (hp : H p = some (.tup [.int (c x), .ref t])) (ht : H t = some (.tup ((g x).map V.int))) : Dp K H (.ref p) (pD c g x) :=
  .tup (SqT.of hp) (.cons (.int _) (.cons (.tup (SqT.of ht) (dpAll_ints _)) .nil))
theorem dpAll_pD {α : Type} {c : α → Int} {g : α → List Int} {H : Hp} : ∀ {ps : List Addr} {xs : List α}, Paired (fun p x => ∃ t, H p = some (.tup [.int (c x), .ref t]) ∧ H t = some (.tup ((g x).map V.int))) ps xs → DpAll K H (ps.map V.ref) (xs.map (pD c g))
  | _, _, .nil => .nil
  | _, _, .cons ⟨t, h1, h2⟩ q => .cons (dp_pD h1 h2) (dpAll_pD q)
def NegAt (es : List (Nat × Nat)) (H : Hp) (p : Addr) (l : List Nat) : Prop := ∃ t, H p = some (.tup [.int (-(cnt es l : Nat)), .ref t]) ∧ LayAt H t l
/-! ### most_in, most_orders -/
def spMost : Sp := fun vs H Q _ => ∃ (a : Addr) (n : Nat) (es : List (Nat × Nat)), vs = [.ref a] ∧ WebAt H a n es ∧ GoodWeb n es ∧ ∀ H' (r : Addr) (l : List Nat), Same H H' → PairAt es H' r l → l ∈ fl n → (∀ m ∈ fl n, cnt es m ≤ cnt es l) → Q (.ref r) H'
abbrev N_most_in : List Str := ["web", "best", "count", "laying"]
theorem sc_most_in : FnScope N_most_in ["web"] (defScope s_most_in) := ⟨rfl, rfl, rfl, by decide +kernel, rfl, by decide +kernel, by decide +kernel⟩
theorem ok_most_in (T : Tx mg) (hF : Has K mg "most_in" s_most_in) (G_counts_in : Cl P w K mg base 10 "counts_in" spCounts) : Cl P w K mg base 11 "most_in" spMost := by
  refine cl_of hF sc_most_in (fun vs H Q E h => by obtain ⟨a, n, es, rfl, _⟩ := h; rfl) (fun _ _ _ _ _ _ us hl => match us, hl with | [_], _ => rfl) fun f cdv A outer s H vs Q E hr h => ?_
  obtain ⟨a, n, es, rfl, hW, gw, q⟩ := h
  refine ⟨_, (pss_cons (ps_set (i := 1) sc_most_in.nd rfl (.inl rfl) (pe_callB (cr_minD rfl hr.units) (by rfl) T.min_ boot_min (pa_cons (pe_lc (own := [("count", 2), ("laying", 3)]) (g := (gTup K 2 (gCons (gName 2) (gCons (gName 3) gNil)))) (tt := tYes) rfl sc_most_in.nd (pi_list (pc hr G_counts_in (by first | decide | omega) (by rfl) (pa_cons (pv 0) pa_nil))) (blkOk_by (own := [("count", 2), ("laying", 3)]) (N := N_most_in) (sc := defScope s_most_in) (by decide +kernel)) (fun _ _ _ _ _ => (pg_tup rfl (pgs_cons (pg_name (i := 2) sc_most_in.nd rfl (.inl rfl)) (pgs_cons (pg_name (i := 3) sc_most_in.nd rfl (.inl rfl)) pgs_nil)))) (fun _ _ _ _ _ => pts_nil) (fun _ _ _ _ _ => (pe_tup (pa_cons (pe_un un_neg (pv 2)) (pa_cons (pv 3) pa_nil))))) pa_nil)))
    (pss_one (ps_ret (pe_tup (pa_cons (pe_un un_neg (pe_ix ix_tup (pv 1) pe_int (fun _ _ => rfl))) (pa_cons (pe_ix ix_tup (pv 1) pe_int (fun _ _ => rfl)) pa_nil)))))), ?_⟩
  have n6 := gw.le
  have l64 : (fl n).length ≤ 64 := by rw [fl_length]; exact pow6 n6
  refine ⟨_, rfl, a, n, es, rfl, hW, gw, fun H1 r ps s1 nr er pp => ⟨r, rfl, ⟨_, SqL.of er⟩, fun D hD => ?_⟩⟩
  have lp : ps.length = (fl n).length := Paired.length pp
  refine lc_it (walk_list (K := K) (a := r) (xs := ps.map V.ref)) (fun i H' => Same H1 H' ∧ ∃ us, H' D = some (.lst (us.map V.ref)) ∧ Paired (NegAt es H') us ((fl n).take i)) ⟨same_new1 hD, [], upd_same, .nil⟩ (fun i H' _ ⟨s, _⟩ => SqL.of (s _ _ er)) ?_ ?_
  · rintro i x H2' H2 hi ⟨s2, us, eD, pu⟩ ⟨rfl, ex⟩
    rw [List.length_map] at hi
    have gl : (fl n)[i]? = some (fl n)[i] := List.getElem?_eq_getElem (by omega)
    obtain ⟨p, et, t, hp, hl⟩ := Paired.getR pp gl
    generalize (fl n)[i] = l at gl hp hl
    obtain rfl := Option.some.inj ((map_ref_ix et).symm.trans ex)
    refine ⟨p, _, rfl, SqT.of (s2 _ _ hp), rfl, _, [_], rfl, _, [], rfl, rfl, rfl, ?_⟩
    refine ⟨_, rfl, _, rfl, _, rfl, (by show 2 ≤ sizeLine; decide), fun u hu => ?_⟩
    have s7 : Same H2 (upd H2 u (.tup [.int (-(cnt es l : Nat)), .ref t])) := same_new1 hu
    have eu : (upd H2 u (.tup [.int (-(cnt es l : Nat)), .ref t])) u = some (.tup [.int (-(cnt es l : Nat)), .ref t]) := upd_same
    generalize upd H2 u (.tup [.int (-(cnt es l : Nat)), .ref t]) = H7 at s7 eu
    have eD7 := s7 _ _ eD
    have tn : ∀ {x : Addr} {ys : List V}, H7 x = some (.tup ys) → (upd H7 D (.lst (us.map V.ref ++ [V.ref u]))) x = some (.tup ys) := fun {x ys} z => by
      rw [upd_ne (fun e => by rw [e, eD7] at z; cases z)]
      exact z
    refine ⟨_, eD7, ?_, fun b o z => ?_, us ++ [u], ?_, ?_⟩
    · have := Paired.length pu
      rw [List.length_take] at this
      rw [List.length_map]
      exact small1000 (by omega)
    · rw [upd_ne (fun e => by rw [e, hD] at z; cases z)]
      exact s7 _ _ (s2 _ _ z)
    · rw [upd_same, List.map_append]; rfl
    · rw [List.take_add_one, gl]
      exact Paired.snoc (F := NegAt es _) ⟨t, tn eu, tn (s7 _ _ (s2 _ _ hl))⟩ (Paired.imp (fun x m ⟨t', q1, q2⟩ => ⟨t', tn (s7 _ _ q1), tn (s7 _ _ q2)⟩) pu)
  · rintro H2 ⟨s2, us, eD, pu⟩
    rw [List.length_map, lp, List.take_of_length_le (Nat.le_refl _)] at pu
    have pd : Paired (fun p (x : List Nat) => ∃ t, H2 p = some (.tup [.int ((fun l => -((cnt es l : Nat) : Int)) x), .ref t]) ∧ H2 t = some (.tup (((fun l : List Nat => l.map fun k : Nat => (k : Int)) x).map V.int))) us (fl n) := by
      have aux : ∀ {xs : List Addr} {ls : List (List Nat)}, (∀ l ∈ ls, l ∈ fl n) → Paired (NegAt es H2) xs ls → Paired (fun p (x : List Nat) => ∃ t, H2 p = some (.tup [.int ((fun l => -((cnt es l : Nat) : Int)) x), .ref t]) ∧ H2 t = some (.tup (((fun l : List Nat => l.map fun k : Nat => (k : Int)) x).map V.int))) xs ls := by
        intro xs ls hm q
        induction q with
        | nil => exact .nil
        | cons r t ih =>
          obtain ⟨t', q1, q2⟩ := r
          refine .cons ⟨t', q1, ?_⟩ (ih fun l hl => hm l (List.mem_cons_of_mem _ hl))
          show H2 t' = some (.tup ((_ : List Nat).map _ |>.map V.int))
          rw [← lay_ints (fl_le1 n _ (hm _ List.mem_cons_self))]
          exact q2
      exact aux (fun _ h => h) pu
    have dp := dpAll_pD (K := K) pd
    cases hf : fl n with
    | nil =>
      have := fl_length n
      rw [hf] at this
      have h2 : 0 < 2 ^ n := Nat.pow_pos (by decide)
      simp at this
      exact absurd h2 (by rw [← this]; exact Nat.lt_irrefl 0)
    | cons l0 ls =>
      refine ⟨D, _, pD _ _ l0, ls.map (pD _ _), rfl, SqL.of eD, by rw [hf] at dp; exact dp, alikeAll_pD _ _ (l0 :: ls), Nat.le_trans (depth_pD _ _ (l0 :: ls)) (by decide), fun i x ex em => ?_⟩
      obtain ⟨y, ey, my⟩ := min_pD (fun l => -((cnt es l : Nat) : Int)) (fun l : List Nat => l.map fun k : Nat => (k : Int)) ls l0
      rw [ey] at em
      have hi : i < (fl n).length := by
        have := (List.getElem?_eq_some_iff.mp ex).1
        rw [List.length_map] at this
        have := Paired.length pu
        omega
      have gl : (fl n)[i]? = some (fl n)[i] := List.getElem?_eq_getElem hi
      have ml := List.getElem_mem hi
      obtain ⟨u, et, t, hu, hl⟩ := Paired.getR pu gl
      generalize (fl n)[i] = l at gl hu hl ml
      obtain rfl := Option.some.inj ((map_ref_ix et).symm.trans ex)
      have ed : pD (fun l => -((cnt es l : Nat) : Int)) (fun l : List Nat => l.map fun k : Nat => (k : Int)) l = pD (fun l => -((cnt es l : Nat) : Int)) (fun l : List Nat => l.map fun k : Nat => (k : Int)) y := by
        rw [← em]
        rw [hf] at gl
        have e2 : ((l0 :: ls).map (pD (fun l => -((cnt es l : Nat) : Int)) (fun l : List Nat => l.map fun k : Nat => (k : Int))))[i]? = some (pD (fun l => -((cnt es l : Nat) : Int)) (fun l : List Nat => l.map fun k : Nat => (k : Int)) l) := by rw [List.getElem?_map, gl]; rfl
        rw [List.map_cons] at e2
        rw [List.getD_eq_getElem?_getD, e2]
        rfl
      have mx : ∀ m ∈ fl n, cnt es m ≤ cnt es l := fun m hm => by
        rw [hf] at hm
        have h1 : -((cnt es y : Nat) : Int) ≤ -((cnt es m : Nat) : Int) := my m hm
        have h2 := pD_inj ed
        have h2 : -((cnt es l : Nat) : Int) = -((cnt es y : Nat) : Int) := h2
        omega
      refine ⟨_, rfl, u, _, 0, _, rfl, rfl, SqT.of hu, rfl, _, rfl, _, rfl, u, _, 1, _, rfl, rfl, SqT.of hu, rfl, (by show 2 ≤ sizeLine; decide), fun z hz => ?_⟩
      refine q _ z l ((s1.trans s2).trans (same_new1 hz)) ⟨t, ?_, same_new1 hz _ _ hl⟩ ml mx
      rw [upd_same]
      show some (HO.tup [V.int (- -((cnt es l : Nat) : Int)), V.ref t]) = _
      rw [Int.neg_neg]
abbrev N_most_orders : List Str := ["web"]
theorem sc_most_orders : FnScope N_most_orders ["web"] (defScope s_most_orders) := ⟨rfl, rfl, rfl, by decide +kernel, rfl, by decide +kernel, by decide +kernel⟩
theorem ok_most_orders (T : Tx mg) (hF : Has K mg "most_orders" s_most_orders) (G_need_web : Cl P w K mg base 3 "need_web" spNeedWeb) (G_most_in : Cl P w K mg base 11 "most_in" spMost) : Cl P w K mg base 12 "most_orders" spMost := by
  refine cl_of hF sc_most_orders (fun vs H Q E h => by obtain ⟨a, n, es, rfl, _⟩ := h; rfl) (fun _ _ _ _ _ _ us hl => match us, hl with | [_], _ => rfl) fun f cdv A outer s H vs Q E hr h => ?_
  obtain ⟨a, n, es, rfl, hW, gw, q⟩ := h
  refine ⟨_, (pss_cons (ps_expr (pc hr G_need_web (by first | decide | omega) (by rfl) (pa_cons (pv 0) pa_nil)))
    (pss_one (ps_ret (pc hr G_most_in (by first | decide | omega) (by rfl) (pa_cons (pv 0) pa_nil))))), ?_⟩
  refine ⟨_, rfl, a, n, es, rfl, hW, gw, fun H1 s1 => ?_⟩
  exact ⟨_, rfl, a, n, es, rfl, hW.same s1, gw, fun H2 r l s2 hp hm mx => q H2 r l (s1.trans s2) hp hm mx⟩
end
end Ck

namespace Ck
open PySem PySem.Spec PyProof.Rows L2
/-! ### heads by count -/
def hN (es : List (Nat × Nat)) (ls : List (List Nat)) (k : Nat) : Nat := ls.countP fun l => decide (0 < cnt es l) && (l.sum == k)
def hsOf (n : Nat) (es : List (Nat × Nat)) (ls : List (List Nat)) : List Nat := (List.range (n + 1)).map (hN es ls)
theorem hsOf_length (n : Nat) (es : List (Nat × Nat)) (ls : List (List Nat)) : (hsOf n es ls).length = n + 1 := by unfold hsOf; rw [List.length_map, List.length_range]
theorem hsOf_get {n k : Nat} (es : List (Nat × Nat)) (ls : List (List Nat)) (h : k ≤ n) : (hsOf n es ls)[k]? = some (hN es ls k) := by
  unfold hsOf
  rw [List.getElem?_map, List.getElem?_range (by omega)]
  rfl
theorem hN_snoc (es : List (Nat × Nat)) (ls : List (List Nat)) (l : List Nat) (k : Nat) : hN es (ls ++ [l]) k = hN es ls k + if (decide (0 < cnt es l) && (l.sum == k)) = true then 1 else 0 := by
  unfold hN
  rw [List.countP_append, List.countP_singleton]
theorem hsOf_snoc {n : Nat} (es : List (Nat × Nat)) (ls : List (List Nat)) (l : List Nat) (h : l.sum ≤ n) : hsOf n es (ls ++ [l]) = (hsOf n es ls).set l.sum (hN es ls l.sum + if 0 < cnt es l then 1 else 0) := by
  apply List.ext_getElem?
  intro k
  rw [List.getElem?_set]
  by_cases hk : k ≤ n
  · rw [hsOf_get es _ hk, hsOf_get es _ hk, hN_snoc]
    by_cases e : l.sum = k
    · rw [if_pos e, if_pos (show l.sum < (hsOf n es ls).length by rw [hsOf_length]; omega), e]
      by_cases c : 0 < cnt es l <;> simp [c]
    · rw [if_neg e]
      have hb : (l.sum == k) = false := by rw [beq_eq_false_iff_ne]; exact e
      rw [hb, Bool.and_false]
      rfl
  · have h1 : (hsOf n es (ls ++ [l]))[k]? = none := List.getElem?_eq_none (by rw [hsOf_length]; omega)
    have h2 : (hsOf n es ls)[k]? = none := List.getElem?_eq_none (by rw [hsOf_length]; omega)
    rw [h1, if_neg (by omega), h2]
theorem sum_ind (s : Nat) : ∀ n : Nat, ((List.range n).map fun k => if s = k then 1 else 0).sum = if s < n then 1 else 0
  | 0 => rfl
  | n + 1 => by
    rw [List.range_succ, List.map_append, List.sum_append, sum_ind s n]
    show _ + ((if s = n then 1 else 0) + 0) = _
    rw [Nat.add_zero]
    by_cases a : s < n
    · rw [if_pos a, if_neg (show ¬ s = n by omega), if_pos (show s < n + 1 by omega)]
    · rw [if_neg a]
      by_cases b : s = n
      · rw [if_pos b, if_pos (show s < n + 1 by omega)]
      · rw [if_neg b, if_neg (show ¬ s < n + 1 by omega)]
theorem hsOf_sum (n : Nat) (es : List (Nat × Nat)) : ∀ ls : List (List Nat), (∀ l ∈ ls, l.sum ≤ n) → (hsOf n es ls).sum = (posL es ls).length
  | [], _ => by
    unfold hsOf hN posL
    exact sum_map_zero _
  | l :: ls, h => by
    have ih := hsOf_sum n es ls fun m hm => h m (List.mem_cons_of_mem _ hm)
    have hl := h l List.mem_cons_self
    have e : hsOf n es (l :: ls) = (List.range (n + 1)).map fun k => (if (decide (0 < cnt es l) && (l.sum == k)) = true then 1 else 0) + hN es ls k := by
      unfold hsOf
      apply List.map_congr_left
      intro k _
      unfold hN
      rw [List.countP_cons, Nat.add_comm]
    rw [e, sum_map_add]
    have e2 : (List.map (hN es ls) (List.range (n + 1))).sum = (posL es ls).length := ih
    rw [e2]
    unfold posL
    by_cases c : 0 < cnt es l
    · rw [List.filter_cons_of_pos (by exact decide_eq_true c), List.length_cons]
      have e3 : ((List.range (n + 1)).map fun k => if (decide (0 < cnt es l) && (l.sum == k)) = true then 1 else 0) = (List.range (n + 1)).map fun k => if l.sum = k then 1 else 0 := by
        apply List.map_congr_left
        intro k _
        rw [decide_eq_true c, Bool.true_and]
        simp
      rw [e3, sum_ind, if_pos (by omega)]
      omega
    · rw [List.filter_cons_of_neg (by simp [c])]
      have e3 : ((List.range (n + 1)).map fun k => if (decide (0 < cnt es l) && (l.sum == k)) = true then 1 else 0) = (List.range (n + 1)).map fun k => 0 := by
        apply List.map_congr_left
        intro k _
        rw [decide_eq_false c, Bool.false_and]
        rfl
      rw [e3, sum_map_zero]
      omega
theorem sum_le1 : ∀ l : List Nat, (∀ c ∈ l, c ≤ 1) → l.sum ≤ l.length
  | [], _ => Nat.le_refl 0
  | c :: l, h => by
    have a := h c List.mem_cons_self
    have b := sum_le1 l fun d hd => h d (List.mem_cons_of_mem _ hd)
    rw [List.sum_cons, List.length_cons]
    omega
theorem fl_sum {n : Nat} {l : List Nat} (h : l ∈ fl n) : l.sum ≤ n := by
  have := sum_le1 l (fl_le1 n l h)
  rw [fl_len h] at this
  exact this
section
variable {P : Program} {w : World} {K : PySem.W.Frag} {mg : Str → Option Value} {base : Heap}
def spHeadsBy : Sp := fun vs H Q _ => ∃ (a : Addr) (n : Nat) (es : List (Nat × Nat)), vs = [.ref a] ∧ WebAt H a n es ∧ GoodWeb n es ∧ ∀ H' (r : Addr), Same H H' → H' r = some (.tup (nV (hsOf n es (fl n)))) → Q (.ref r) H'
abbrev N_heads_by_count : List Str := ["web", "found", "count", "laying"]
theorem sc_heads_by_count : FnScope N_heads_by_count ["web"] (defScope s_heads_by_count) := ⟨rfl, rfl, rfl, by decide +kernel, rfl, by decide +kernel, by decide +kernel⟩
theorem ok_heads_by_count (T : Tx mg) (hF : Has K mg "heads_by_count" s_heads_by_count) (G_need_web : Cl P w K mg base 3 "need_web" spNeedWeb) (G_counts_in : Cl P w K mg base 10 "counts_in" spCounts) : Cl P w K mg base 11 "heads_by_count" spHeadsBy := by
  refine cl_of hF sc_heads_by_count (fun vs H Q E h => by obtain ⟨a, n, es, rfl, _⟩ := h; rfl) (fun _ _ _ _ _ _ us hl => match us, hl with | [_], _ => rfl) fun f cdv A outer s H vs Q E hr h => ?_
  obtain ⟨a, n, es, rfl, hW, gw, q⟩ := h
  refine ⟨_, (pss_cons (ps_expr (pc hr G_need_web (by first | decide | omega) (by rfl) (pa_cons (pv 0) pa_nil)))
    (pss_cons (ps_set (i := 1) sc_heads_by_count.nd rfl (.inl rfl) (pe_op op_rep (pe_lst (pa_cons pe_int pa_nil)) (pe_op op_add (pe_ix ix_tup (pv 0) pe_int (fun _ _ => rfl)) pe_int)))
    (pss_cons (ps_for PassesOwn.never rfl (pi_list (pc hr G_counts_in (by first | decide | omega) (by rfl) (pa_cons (pv 0) pa_nil))) (pg_tup rfl (pgs_cons (pg_name (i := 2) sc_heads_by_count.nd rfl (.inl rfl)) (pgs_cons (pg_name (i := 3) sc_heads_by_count.nd rfl (.inl rfl)) pgs_nil))) (pss_one (ps_augS (pv 1) (pe_callB (cr_sumT rfl) (by rfl) T.sum_ boot_sum (pa_cons (pv 3) pa_nil)) pget_list (pe_callTy call_int1 (by rfl) T.int_ boot_int (pa_cons (pe_cmpR op_gt (pv 2) pe_int (nomark _)) pa_nil)) ip_add set_list)))
    (pss_one (ps_ret (pe_callTy call_tuple_of (by rfl) T.tuple_ boot_tuple (pa_cons (pv 1) pa_nil))))))), ?_⟩
  have n6 := gw.le
  have l64 : (fl n).length ≤ 64 := by rw [fl_length]; exact pow6 n6
  refine ⟨_, rfl, a, n, es, rfl, hW, gw, fun H1 s1 => ?_⟩
  obtain ⟨b, us, h1, h2, h3⟩ := id (hW.same s1)
  refine ⟨(by show 1 ≤ sizeLine; decide), fun z0 hz0 => ?_⟩
  have s2 : Same H1 (upd H1 z0 (.lst [.int 0])) := same_new1 hz0
  refine ⟨_, rfl, a, _, 0, .int n, rfl, rfl, SqT.of (s2 _ _ h1), rfl, _, _, rfl, rfl, z0, _, _, rfl, rfl, upd_same, by omega, by omega, ?_, fun F hFn => ?_⟩
  · show 1 * ((n : Int) + 1).toNat ≤ sizeLine
    exact Nat.le_of_lt (small1000 (by omega))
  have e0 : (List.replicate ((n : Int) + 1).toNat [V.int 0]).flatten = nV (hsOf n es []) := by
    have e1 : ((n : Int) + 1).toNat = n + 1 := by omega
    rw [e1]
    have e2 : ∀ m : Nat, (List.replicate m [V.int 0]).flatten = List.replicate m (V.int 0) := by
      intro m
      induction m with
      | zero => rfl
      | succ m ih => rw [List.replicate_succ, List.flatten_cons, ih, List.replicate_succ]; rfl
    rw [e2]
    apply List.ext_getElem?
    intro k
    by_cases hk : k < n + 1
    · rw [List.getElem?_replicate, if_pos hk, nV_ix (hsOf_get es [] (by omega))]
      rfl
    · rw [List.getElem?_eq_none (by rw [List.length_replicate]; omega), List.getElem?_eq_none (by rw [nV_length, hsOf_length]; omega)]
  rw [e0]
  have s3 : Same H1 (upd (upd H1 z0 (.lst [.int 0])) F (.lst (nV (hsOf n es [])))) := same_new s2 hFn
  have eF : (upd (upd H1 z0 (.lst [.int 0])) F (.lst (nV (hsOf n es [])))) F = some (.lst (nV (hsOf n es []))) := upd_same
  have nF1 : H1 F = none := s2.free hFn
  generalize upd (upd H1 z0 (.lst [.int 0])) F (.lst (nV (hsOf n es []))) = H2 at s3 eF
  refine ⟨_, rfl, a, n, es, rfl, (hW.same s1).same s3, gw, fun H3 r ps s4 nr er pp => ?_⟩
  have lp : ps.length = (fl n).length := Paired.length pp
  have kr : r ≠ F := fun z => by rw [z, eF] at nr; cases nr
  refine ⟨r, rfl, ⟨_, SqL.of er⟩, ?_⟩
  refine for_it (walk_list (K := K) (a := r) (xs := ps.map V.ref)) (fun i σ H' => ∃ y2 y3, σ = [some (.ref a), some (.ref F), y2, y3] ∧ SX F H3 H' ∧ H' F = some (.lst (nV (hsOf n es ((fl n).take i)))))
    ⟨none, none, rfl, SX.of (Same.refl _), s4 _ _ eF⟩ (fun i σ H' _ ⟨_, _, _, s, _⟩ => SqL.of (s _ _ kr er)) ?_ ?_
  · rintro i x σ H4 H5 hi ⟨y2, y3, rfl, sx, e⟩ ⟨rfl, ex⟩
    rw [List.length_map] at hi
    have gl : (fl n)[i]? = some (fl n)[i] := List.getElem?_eq_getElem (by omega)
    have ml := List.getElem_mem (show i < (fl n).length by omega)
    obtain ⟨p, et, tl, hp, hl⟩ := Paired.getR pp gl
    generalize (fl n)[i] = l at gl hp hl ml
    obtain rfl := Option.some.inj ((map_ref_ix et).symm.trans ex)
    have pk : p ≠ F := fun z => by rw [z, s4 _ _ eF] at hp; cases hp
    have hl' : H3 tl = some (.tup (l.map cellV)) := hl
    have tk : tl ≠ F := fun z => by rw [z, s4 _ _ eF] at hl'; cases hl'
    have hp5 := sx _ _ pk hp
    have hl5 := sx _ _ tk hl'
    rw [lay_ints (fl_le1 n l ml)] at hl5
    refine ⟨p, _, rfl, SqT.of hp5, rfl, _, [_], rfl, _, [], rfl, rfl, ?_⟩
    refine ⟨_, rfl, _, rfl, tl, _, rfl, SqT.of hl5, ?_⟩
    rw [sum_nat_cast]
    have sl := fl_sum ml
    refine ⟨F, _, l.sum, _, rfl, rfl, e, nV_ix (hsOf_get es _ sl), ?_⟩
    refine ⟨_, rfl, _, 0, rfl, rfl, .inr ⟨_, rfl, ?_⟩⟩
    refine ⟨_, _, rfl, rfl, F, _, _, l.sum, rfl, rfl, e, ?_, ?_⟩
    · unfold ixN
      rw [if_pos (by omega), if_pos (by rw [nV_length, hsOf_length]; omega), Int.toNat_natCast]
    · refine ⟨_, _, rfl, fun b o nb z => ?_, ?_⟩
      · rw [upd_ne nb]
        exact sx _ _ nb z
      · rw [upd_same, List.take_add_one, gl]
        show _ = some (HO.lst (nV (hsOf n es ((fl n).take i ++ [l]))))
        rw [hsOf_snoc es _ l sl]
        unfold nV
        rw [map_set]
        congr 3
        by_cases c : 0 < cnt es l
        · rw [if_pos c, if_pos (decide_eq_true (by omega))]
          rfl
        · rw [if_neg c, if_neg (by simp; omega)]
          simp
  · rintro σ H4 ⟨y2, y3, rfl, sx, e⟩
    rw [List.length_map, lp, List.take_of_length_le (Nat.le_refl _)] at e
    refine ⟨_, rfl, F, _, rfl, .inl ⟨SqL.of e, fun t ht => ?_⟩⟩
    have sm : Same H1 H4 := same_sx (s3.trans s4) nF1 sx
    exact q _ t ((s1.trans sm).trans (same_new1 ht)) upd_same
end
end Ck

namespace Ck
open PySem PySem.Spec PyProof.Rows L2
section
variable {P : Program} {w : World} {K : PySem.W.Frag} {mg : Str → Option Value} {base : Heap}
/-! ### _law_taken -/
theorem SX.upd {x : Addr} {H : Hp} {o : HO} : SX x H (upd H x o) := fun b o' n e => by rw [upd_ne n]; exact e
theorem mod_nat (r : Int) {m : Nat} (h : 0 < m) : ∃ v : Nat, r % (m : Int) = (v : Int) ∧ v < m := by
  have a := Int.emod_nonneg r (show (m : Int) ≠ 0 by omega)
  have b := Int.emod_lt_of_pos r (show (0 : Int) < m by omega)
  exact ⟨(r % (m : Int)).toNat, by omega, by omega⟩
theorem _root_.L2.SqL.sx {H H' : Hp} {ra sa z : Addr} {t : List V} {ns : List Int} (h : SqL K H sa (ns.map V.int)) (hR : H ra = some (.lst (.ref z :: t))) (s : SX ra H H') : SqL K H' sa (ns.map V.int) := by
  rcases h with h | h
  · refine .inl ?_
    rcases h with h | ⟨o, h⟩
    · refine .inl (s _ _ (fun e => ?_) h)
      rw [e, hR] at h
      injection h with h
      injection h with h
      cases ns with
      | nil => cases h
      | cons a b => injection h with h _; cases h
    · refine .inr ⟨o, s _ _ (fun e => ?_) h⟩
      rw [e, hR] at h
      cases h
  · exact .inr h
def RowL (K : PySem.W.Frag) (ns : List Int) (sa : Addr) (H : Hp) (ra : Addr) : Prop := ∃ (i : Nat) (s r : Int), H ra = some (.lst [.ref sa, .int (i : Int), .int s, .int r]) ∧ SqL K H sa (ns.map V.int) ∧ 0 ≤ s ∧ s < 2147483647
def spTake (ns : List Int) (K : PySem.W.Frag) : Sp := fun vs H Q _ => ∃ (ra sa : Addr) (m : Nat), vs = [.ref ra, .int m] ∧ 0 < m ∧ m ≤ 1000 ∧ ns.length ≤ 1000 ∧ RowL K ns sa H ra ∧ ∀ H' (v : Nat), SX ra H H' → RowL K ns sa H' ra → v < m → Q (.int v) H'
abbrev N_law_taken : List Str := ["_law_row", "_law_many", "_law_found", "_law_cell"]
theorem sc_law_taken : FnScope N_law_taken ["_law_row", "_law_many"] (defScope s_law_taken) := ⟨rfl, rfl, rfl, by decide +kernel, rfl, by decide +kernel, by decide +kernel⟩
theorem ok_law_taken (T : Tx mg) (ns : List Int) (hF : Has K mg "_law_taken" s_law_taken) : Cl P w K mg base 1 "_law_taken" (spTake ns K) := by
  refine cl_of hF sc_law_taken (fun vs H Q E h => by obtain ⟨ra, sa, m, rfl, _⟩ := h; rfl) (fun _ _ _ _ _ _ us hl => match us, hl with | [_, _], _ => rfl) fun f cdv A outer s H vs Q E hr h => ?_
  obtain ⟨ra, sa, m, rfl, hm, hm2, hns, ⟨i, st, r, hR, hS, s0, s1⟩, q⟩ := h
  refine ⟨_, (pss_cons (ps_if (pt_cmpR op_gt (pe_ix ix_list (pv 0) pe_int (fun _ _ => rfl)) pe_int (nomark _)) (pss_cons (ps_set (i := 2) sc_law_taken.nd rfl (.inl rfl) (pe_op op_mod (pe_callTy call_int1 (by rfl) T.int_ boot_int (pa_cons (pe_ix ix_list (pv 0) pe_int (fun _ _ => rfl)) pa_nil)) (pv 1)))
    (pss_cons (ps_asg (pe_op op_fdivN (pe_ix ix_list (pv 0) pe_int (fun _ _ => rfl)) (pv 1)) (pg_sub (pv 0) pe_int set_list))
    (pss_one (ps_ret (pv 2))))) pss_nil)
    (pss_cons (ps_asg (pe_op op_add (pe_ix ix_list (pv 0) pe_int (fun _ _ => rfl)) pe_int) (pg_sub (pv 0) pe_int set_list))
    (pss_cons (ps_if (pt_cmpR op_gt (pe_ix ix_list (pv 0) pe_int (fun _ _ => rfl)) (pe_callB call_len_seq (by rfl) T.len_ PySem.boot_len (pa_cons (pe_ix ix_list (pv 0) pe_int (fun _ _ => rfl)) pa_nil)) (nomark _)) (pss_cons (ps_asg (pe_op op_mod (pe_callTy call_int1 (by rfl) T.int_ boot_int (pa_cons (pe_op op_add (pe_op op_mul (pe_ix ix_list (pv 0) pe_int (fun _ _ => rfl)) pe_int) pe_int) pa_nil)) pe_int) (pg_sub (pv 0) pe_int set_list))
    (pss_one (ps_ret (pe_op op_mod (pe_callTy call_int1 (by rfl) T.int_ boot_int (pa_cons (pe_op op_fdivN (pe_ix ix_list (pv 0) pe_int (fun _ _ => rfl)) pe_int) pa_nil)) (pv 1))))) pss_nil)
    (pss_cons (ps_set (i := 3) sc_law_taken.nd rfl (.inl rfl) (pe_ix ix_list (pe_ix ix_list (pv 0) pe_int (fun _ _ => rfl)) (pe_op op_sub (pe_ix ix_list (pv 0) pe_int (fun _ _ => rfl)) pe_int) (fun _ _ => rfl)))
    (pss_cons (ps_asg (pe_op op_mod (pe_callTy call_int1 (by rfl) T.int_ boot_int (pa_cons (pe_op op_add (pe_op op_add (pe_op op_mul (pe_ix ix_list (pv 0) pe_int (fun _ _ => rfl)) pe_int) (pv 3)) pe_int) pa_nil)) pe_int) (pg_sub (pv 0) pe_int set_list))
    (pss_cons (ps_if (pt_cmpR op_ge (pv 3) (pe_op op_pow pe_int pe_int) (nomark _)) (pss_one (ps_asg (pe_op op_fdivN (pv 3) (pv 1)) (pg_sub (pv 0) pe_int set_list))) pss_nil)
    (pss_one (ps_ret (pe_op op_mod (pe_callTy call_int1 (by rfl) T.int_ boot_int (pa_cons (pv 3) pa_nil)) (pv 1)))))))))), ?_⟩
  have hR' : SqL K H ra [.ref sa, .int (i : Int), .int st, .int r] := SqL.of hR
  refine ⟨_, rfl, ra, _, 3, .int r, rfl, rfl, hR', rfl, r, 0, rfl, rfl, _, rfl, ite2 (fun c => ?_) (fun c => ?_)⟩
  · have md := mod_nat r hm
    obtain ⟨v, ev, vm⟩ := md
    refine ⟨_, rfl, ra, _, 3, .int r, rfl, rfl, hR', rfl, .inl ⟨r, rfl, ?_⟩⟩
    refine ⟨_, rfl, r, (m : Int), rfl, rfl, (by show (0 : Int) < m; omega), ?_⟩
    refine ⟨_, rfl, ra, _, 3, .int r, rfl, rfl, hR', rfl, _, rfl, r, (m : Int), rfl, rfl, (by show CDivN r m; exact ⟨by omega, by omega⟩), ?_⟩
    refine ⟨_, rfl, ra, _, 3, 3, rfl, rfl, hR, rfl, ?_⟩
    refine ⟨_, rfl, ?_⟩
    have sx : SX ra H (upd H ra (.lst [.ref sa, .int (i : Int), .int st, .int (r.fdiv m)])) := SX.upd
    have z := q _ v sx ⟨i, st, r.fdiv m, upd_same, hS.sx hR sx, s0, s1⟩ vm
    rw [← ev] at z
    exact z
  · refine ⟨_, rfl, ra, _, 1, .int (i : Int), rfl, rfl, hR', rfl, (i : Int), 1, rfl, rfl, ?_⟩
    refine ⟨_, rfl, ra, _, 1, 1, rfl, rfl, hR, rfl, ?_⟩
    have ei : V.int ((i : Int) + 1) = V.int ((i + 1 : Nat) : Int) := congrArg V.int (by omega)
    show tSeq _ _ _ _ (upd H ra (.lst [.ref sa, .int ((i : Int) + 1), .int st, .int r]))
    rw [ei]
    have sx1 : SX ra H (upd H ra (.lst [.ref sa, .int ((i + 1 : Nat) : Int), .int st, .int r])) := SX.upd
    have hR1 : (upd H ra (.lst [.ref sa, .int ((i + 1 : Nat) : Int), .int st, .int r])) ra = some (.lst [.ref sa, .int ((i + 1 : Nat) : Int), .int st, .int r]) := upd_same
    have hS1 := hS.sx hR sx1
    generalize upd H ra (.lst [.ref sa, .int ((i + 1 : Nat) : Int), .int st, .int r]) = H1 at sx1 hR1 hS1
    have hR1' : SqL K H1 ra [.ref sa, .int ((i + 1 : Nat) : Int), .int st, .int r] := SqL.of hR1
    refine ⟨_, rfl, ra, _, 1, .int ((i + 1 : Nat) : Int), rfl, rfl, hR1', rfl, _, rfl, ra, _, 0, .ref sa, rfl, rfl, hR1', rfl, sa, _, rfl, .inl hS1, _, _, rfl, rfl, _, rfl, ite2 (fun c2 => ?_) (fun c2 => ?_)⟩
    · refine ⟨_, rfl, ra, _, 2, .int st, rfl, rfl, hR1', rfl, st, 48271, rfl, rfl, .inr (by omega), _, 11, rfl, rfl, .inl ⟨_, rfl, ?_⟩⟩
      refine ⟨_, _, rfl, rfl, (by show (0 : Int) < 2147483647; decide), ?_⟩
      dsimp only
      generalize hst : (st * 48271 + 11) % 2147483647 = st2
      have b0 : 0 ≤ st2 := by omega
      have b1 : st2 < 2147483647 := by omega
      refine ⟨_, rfl, ra, _, 2, 2, rfl, rfl, hR1, rfl, ?_⟩
      have sx2 : SX ra H1 (upd H1 ra (.lst [.ref sa, .int ((i + 1 : Nat) : Int), .int st2, .int r])) := SX.upd
      have hR2 : (upd H1 ra (.lst [.ref sa, .int ((i + 1 : Nat) : Int), .int st2, .int r])) ra = some (.lst [.ref sa, .int ((i + 1 : Nat) : Int), .int st2, .int r]) := upd_same
      have hS2 := hS1.sx hR1 sx2
      have eset : List.set [V.ref sa, V.int ((i + 1 : Nat) : Int), V.int st, V.int r] 2 (V.int st2) = [.ref sa, .int ((i + 1 : Nat) : Int), .int st2, .int r] := rfl
      rw [eset]
      generalize upd H1 ra (.lst [.ref sa, .int ((i + 1 : Nat) : Int), .int st2, .int r]) = H2 at sx2 hR2 hS2
      obtain ⟨v, ev, vm⟩ := mod_nat (st2.fdiv 7) hm
      refine ⟨_, rfl, ra, _, 2, .int st2, rfl, rfl, SqL.of hR2, rfl, st2, 7, rfl, rfl, (by show CDivN st2 7; exact ⟨by decide, by decide⟩), .inl ⟨_, rfl, ?_⟩⟩
      refine ⟨_, rfl, _, (m : Int), rfl, rfl, (by show (0 : Int) < m; omega), ?_⟩
      have z := q _ v (sx1.trans sx2) ⟨i + 1, st2, r, hR2, hS2, b0, b1⟩ vm
      rw [← ev] at z
      exact z
    · have il : i < ns.length := by
        have : ¬ (((ns.map V.int).length : Nat) : Int) < ((i + 1 : Nat) : Int) := fun z => c2 (decide_eq_true z)
        rw [List.length_map] at this
        omega
      have gn : (ns.map V.int)[i]? = some (.int ns[i]) := by rw [List.getElem?_map, List.getElem?_eq_getElem il]; rfl
      generalize ns[i] = x at gn
      refine ⟨_, rfl, ra, _, 0, .ref sa, rfl, rfl, hR1', rfl, _, rfl, ra, _, 1, .int ((i + 1 : Nat) : Int), rfl, rfl, hR1', rfl, _, 1, rfl, rfl, sa, _, _, .int x, rfl, rfl, hS1, ?_, ?_⟩
      · show atI (ns.map V.int) (((i + 1 : Nat) : Int) - 1) = _
        have e1 : (((i + 1 : Nat) : Int) - 1) = (i : Int) := by omega
        rw [e1]
        exact atI_nat gn
      refine ⟨_, rfl, ra, _, 2, .int st, rfl, rfl, hR1', rfl, st, 48271, rfl, rfl, .inr (by omega), _, rfl, _, x, rfl, rfl, _, 11, rfl, rfl, .inl ⟨_, rfl, ?_⟩⟩
      refine ⟨_, _, rfl, rfl, (by show (0 : Int) < 2147483647; decide), ?_⟩
      dsimp only
      generalize hst : (st * 48271 + x + 11) % 2147483647 = st2
      have b0 : 0 ≤ st2 := by omega
      have b1 : st2 < 2147483647 := by omega
      refine ⟨_, rfl, ra, _, 2, 2, rfl, rfl, hR1, rfl, ?_⟩
      have sx2 : SX ra H1 (upd H1 ra (.lst [.ref sa, .int ((i + 1 : Nat) : Int), .int st2, .int r])) := SX.upd
      have hR2 : (upd H1 ra (.lst [.ref sa, .int ((i + 1 : Nat) : Int), .int st2, .int r])) ra = some (.lst [.ref sa, .int ((i + 1 : Nat) : Int), .int st2, .int r]) := upd_same
      have hS2 := hS1.sx hR1 sx2
      have eset : List.set [V.ref sa, V.int ((i + 1 : Nat) : Int), V.int st, V.int r] 2 (V.int st2) = [.ref sa, .int ((i + 1 : Nat) : Int), .int st2, .int r] := rfl
      rw [eset]
      generalize upd H1 ra (.lst [.ref sa, .int ((i + 1 : Nat) : Int), .int st2, .int r]) = H2 at sx2 hR2 hS2
      obtain ⟨v, ev, vm⟩ := mod_nat x hm
      refine ⟨_, rfl, 10, 18, rfl, rfl, (by show CPow 10 18; exact ⟨by decide, by decide, by decide⟩), x, _, rfl, rfl, _, rfl, ite2 (fun c3 => ?_) (fun c3 => ?_)⟩
      · refine ⟨_, rfl, _, rfl, x, (m : Int), rfl, rfl, (by show CDivN x m; exact ⟨by omega, by omega⟩), ?_⟩
        refine ⟨_, rfl, ra, _, 3, 3, rfl, rfl, hR2, rfl, ?_⟩
        have sx3 : SX ra H2 (upd H2 ra (.lst [.ref sa, .int ((i + 1 : Nat) : Int), .int st2, .int (x.fdiv m)])) := SX.upd
        refine ⟨_, rfl, .inl ⟨x, rfl, ?_⟩⟩
        refine ⟨_, rfl, _, (m : Int), rfl, rfl, (by show (0 : Int) < m; omega), ?_⟩
        have z := q _ v ((sx1.trans sx2).trans sx3) ⟨i + 1, st2, x.fdiv m, upd_same, hS2.sx hR2 sx3, b0, b1⟩ vm
        rw [← ev] at z
        exact z
      · refine ⟨_, rfl, .inl ⟨x, rfl, ?_⟩⟩
        refine ⟨_, rfl, _, (m : Int), rfl, rfl, (by show (0 : Int) < m; omega), ?_⟩
        have z := q _ v (sx1.trans sx2) ⟨i + 1, st2, r, hR2, hS2, b0, b1⟩ vm
        rw [← ev] at z
        exact z
theorem RowL.at_ {ns : List Int} {sa : Addr} {H : Hp} {ra : Addr} (h : RowL K ns sa H ra) : ∃ z t, H ra = some (.lst (.ref z :: t)) := by
  obtain ⟨i, s, r, h, _⟩ := h
  exact ⟨sa, _, h⟩
theorem RowL.same {ns : List Int} {sa : Addr} {H H' : Hp} {ra : Addr} (s : Same H H') (h : RowL K ns sa H ra) : RowL K ns sa H' ra := by
  obtain ⟨i, st, r, h, h2, h3⟩ := h
  exact ⟨i, st, r, s _ _ h, Same.seq s h2, h3⟩
/-- a later list of our own may change -/
theorem RowL.keep {ns : List Int} {sa F : Addr} {H H1 H2 : Hp} {ra : Addr} (h0 : RowL K ns sa H ra) (hF : H F = none) (h : RowL K ns sa H1 ra) (s : SX F H1 H2) : RowL K ns sa H2 ra := by
  obtain ⟨i, st, r, e, h2, h3⟩ := h
  obtain ⟨i', st', r', e', h2', h3'⟩ := h0
  refine ⟨i, st, r, s _ _ (fun z => by rw [← z, e'] at hF; cases hF) e, ?_, h3⟩
  rcases h2' with q | q
  · have nF : sa ≠ F := fun z => by
      rcases q with q | ⟨o, q⟩
      · rw [z, hF] at q; cases q
      · rw [z, hF] at q; cases q
    rcases h2 with k | k
    · refine .inl ?_
      rcases k with k | ⟨o, k⟩
      · exact .inl (s _ _ nF k)
      · exact .inr ⟨o, s _ _ nF k⟩
    · exact .inr k
  · exact .inr q
end
end Ck

namespace Ck
open PySem PySem.Spec PyProof.Rows L2
theorem cut_to (xs : List V) {v : Nat} (h : v ≤ xs.length) : cutV xs none (some (v : Int)) = xs.take v := by
  unfold cutV
  rw [HT.sIx_nat, HT.sIx_none, List.drop_zero, Nat.sub_zero, Nat.min_eq_left h]
theorem cut_from (xs : List V) {v : Nat} (h : v ≤ xs.length) : cutV xs (some (v : Int)) none = xs.drop v := by
  unfold cutV
  rw [HT.sIx_nat, HT.sIx_none, Nat.min_eq_left h]
  exact List.take_of_length_le (by rw [List.length_drop]; exact Nat.le_refl _)
section
variable {P : Program} {w : World} {K : PySem.W.Frag} {mg : Str → Option Value} {base : Heap}
/-! ### _law_order -/
def spOrd (ns : List Int) (K : PySem.W.Frag) : Sp := fun vs H Q _ => ∃ (ra sa : Addr) (m : Nat), vs = [.ref ra, .int m] ∧ m ≤ 6 ∧ ns.length ≤ 1000 ∧ RowL K ns sa H ra ∧
  ∀ H' (r : Addr) (xs : List Nat), SX ra H H' → RowL K ns sa H' ra → H r = none → H' r = some (.lst (nV xs)) → xs.length = m → xs.Nodup → (∀ x ∈ xs, x < m) → Q (.ref r) H'
abbrev N_law_order : List Str := ["_law_row", "_law_many", "_law_left", "_law_found", "_law_turn", "_law_at"]
theorem sc_law_order : FnScope N_law_order ["_law_row", "_law_many"] (defScope s_law_order) := ⟨rfl, rfl, rfl, by decide +kernel, rfl, by decide +kernel, by decide +kernel⟩
theorem ok_law_order (T : Tx mg) (ns : List Int) (hF : Has K mg "_law_order" s_law_order) (G_law_taken : Cl P w K mg base 1 "_law_taken" (spTake ns K)) : Cl P w K mg base 2 "_law_order" (spOrd ns K) := by
  refine cl_of hF sc_law_order (fun vs H Q E h => by obtain ⟨ra, sa, m, rfl, _⟩ := h; rfl) (fun _ _ _ _ _ _ us hl => match us, hl with | [_, _], _ => rfl) fun f cdv A outer s H vs Q E hr h => ?_
  obtain ⟨ra, sa, m, rfl, hm, hns, hR, q⟩ := h
  refine ⟨_, (pss_cons (ps_par (i := 2) (j := 3) (by rfl) sc_law_order.nd rfl rfl (by decide) rfl rfl (pa_cons (pe_listRg rfl (by rfl) T.list_ (prg_1 (by rfl) T.range_ (pv 1))) (pa_cons (pe_lst pa_nil) pa_nil)) (by rfl))
    (pss_cons (ps_for PassesOwn.never rfl (pi_range1 (by rfl) T.range_ (pa_cons (pv 1) pa_nil)) (pg_name (i := 4) sc_law_order.nd rfl (.inl rfl)) (pss_cons (ps_set (i := 5) sc_law_order.nd rfl (.inl rfl) (pc hr G_law_taken (by first | decide | omega) (by rfl) (pa_cons (pv 0) (pa_cons (pe_callB call_len_seq (by rfl) T.len_ PySem.boot_len (pa_cons (pv 2) pa_nil)) pa_nil))))
    (pss_cons (ps_expr (pe_bm PySem.F.plainAttrs_list PySem.F.slot_list_append PySem.F.type_list_append mt_append (pv 3) (pa_cons (pe_ix ix_list (pv 2) (pv 5) (fun _ _ => rfl)) pa_nil)))
    (pss_one (ps_set (i := 2) sc_law_order.nd rfl (.inl rfl) (pe_op op_cat (pe_slice sl_list (pv 2) po_none (po_some (pv 5))) (pe_slice sl_list (pv 2) (po_some (pe_op op_add (pv 5) pe_int)) po_none)))))))
    (pss_one (ps_ret (pv 3))))), ?_⟩
  refine ⟨_, rfl, m, rfl, ?_⟩
  refine ⟨RgOk.of_le (Int.le_refl 0) (by omega) (by omega) (by omega), fun L0 hL0 => ?_⟩
  have e0 : rgV 0 (m : Int) = nV (List.range m) := by
    unfold rgV nV
    rw [show ((m : Int) - 0).toNat = m by omega]
    apply List.map_congr_left
    intro k _
    exact congrArg V.int (by omega)
  rw [e0]
  have s1 : Same H (upd H L0 (.lst (nV (List.range m)))) := same_new1 hL0
  have eL0 : (upd H L0 (.lst (nV (List.range m)))) L0 = some (.lst (nV (List.range m))) := upd_same
  generalize upd H L0 (.lst (nV (List.range m))) = H1 at s1 eL0
  refine ⟨(by show 0 ≤ sizeLine; decide), fun F hF1 => ?_⟩
  have s2 : Same H (upd H1 F (.lst [])) := same_new s1 hF1
  have eF2 : (upd H1 F (.lst [])) F = some (.lst (nV [])) := upd_same
  have eL2 : (upd H1 F (.lst [])) L0 = some (.lst (nV (List.range m))) := same_new1 hF1 _ _ eL0
  have hF0 : H F = none := s1.free hF1
  have nFL : L0 ≠ F := ne_of_none eL0 hF1
  generalize upd H1 F (.lst []) = H2 at s2 eF2 eL2
  refine ⟨_, _, rfl, _, rfl, m, rfl, by omega, by omega, ?_⟩
  have nFr : F ≠ ra := fun e => by
    obtain ⟨z, t, h⟩ := hR.at_
    rw [← e, hF0] at h
    cases h
  have i2 : RowL K ns sa H2 ra := hR.same s2
  refine for_it walk_range (fun i σ H' => ∃ L lf fd y4 y5, σ = [some (.ref ra), some (.int m), some (.ref L), some (.ref F), y4, y5] ∧ SX ra H H' ∧ RowL K ns sa H' ra ∧ H' L = some (.lst (nV lf)) ∧ H' F = some (.lst (nV fd)) ∧ L ≠ F ∧ L ≠ ra ∧
      lf.length = m - i ∧ fd.length = i ∧ (fd ++ lf).Nodup ∧ ∀ x ∈ fd ++ lf, x < m)
    ⟨L0, List.range m, [], none, none, rfl, SX.of s2, i2, eL2, eF2, nFL, ?_, by rw [List.length_range]; rfl, rfl, by rw [List.nil_append]; exact List.nodup_range, fun x hx => List.mem_range.mp (by simpa using hx)⟩ (fun _ _ _ _ _ => trivial) ?_ ?_
  · intro e
    obtain ⟨z, t, h⟩ := i2.at_
    rw [← e, eL2] at h
    injection h with h
    injection h with h
    cases hm0 : List.range m with
    | nil => rw [hm0] at h; exact absurd h (by intro z; cases z)
    | cons a b => rw [hm0] at h; exact absurd h (by intro z; injection z with z _; cases z)
  · rintro i x σ H3' H3 hi ⟨L, lf, fd, y4, y5, rfl, sx, rl, eL, eF, nLF, nLr, ll, lfd, nd, lt⟩ ⟨rfl, ex⟩
    have hi' : i < m := by simpa using hi
    refine ⟨_, rfl, _, rfl, L, _, rfl, .inl (SqL.of eL), ra, sa, m - i, ?_, by omega, by omega, hns, rl, fun H4 v sx4 rl4 hv => ?_⟩
    · rw [nV_length, ll]
    have eL4 := sx4 _ _ nLr eL
    have eF4 := sx4 _ _ nFr eF
    have hvl : v < lf.length := by rw [ll]; exact hv
    have gv : lf[v]? = some lf[v] := List.getElem?_eq_getElem hvl
    have mv : lf[v] ∈ lf := List.getElem_mem hvl
    have cut : (lf.take v ++ lf[v] :: lf.drop (v + 1)) = lf := by
      rw [← List.drop_eq_getElem_cons hvl, List.take_append_drop]
    generalize lf[v] = c at gv mv cut
    refine ⟨_, rfl, .inl ⟨rfl, _, SqL.of eF4⟩, _, rfl, _, rfl, L, _, _, .int (c : Int), rfl, rfl, SqL.of eL4, atI_nat (nV_ix gv), F, _, _, rfl, rfl, eF4, ?_, ?_⟩
    · rw [nV_length]
      exact small1000 (by omega)
    have sx5 : SX F H4 (upd H4 F (.lst (nV fd ++ [.int (c : Int)]))) := SX.upd
    have eF5 : (upd H4 F (.lst (nV fd ++ [.int (c : Int)]))) F = some (.lst (nV (fd ++ [c]))) := by rw [upd_same, nV_append]; rfl
    have eL5 := sx5 _ _ nLF eL4
    have rl5 : RowL K ns sa (upd H4 F (.lst (nV fd ++ [.int (c : Int)]))) ra := hR.keep hF0 rl4 sx5
    have sx05 : SX ra H (upd H4 F (.lst (nV fd ++ [.int (c : Int)]))) := fun b o n z => sx5 _ _ (ne_of_none z hF0) (sx4 _ _ n (sx _ _ n z))
    generalize upd H4 F (.lst (nV fd ++ [.int (c : Int)])) = H5 at sx5 eF5 eL5 rl5 sx05
    refine ⟨_, rfl, _, rfl, v, rfl, L, _, rfl, SqL.of eL5, fun A1 hA1 => ?_⟩
    rw [cut_to _ (by rw [nV_length]; omega)]
    have s6 : Same H5 (upd H5 A1 (.lst ((nV lf).take v))) := same_new1 hA1
    have eA6 : (upd H5 A1 (.lst ((nV lf).take v))) A1 = some (.lst ((nV lf).take v)) := upd_same
    generalize upd H5 A1 (.lst ((nV lf).take v)) = H6 at s6 eA6
    refine ⟨_, rfl, _, rfl, _, 1, rfl, rfl, _, rfl, L, _, rfl, SqL.of (s6 _ _ eL5), fun A2 hA2 => ?_⟩
    have ev : (v : Int) + 1 = ((v + 1 : Nat) : Int) := by omega
    rw [ev, cut_from _ (by rw [nV_length]; omega)]
    have s7 : Same H6 (upd H6 A2 (.lst ((nV lf).drop (v + 1)))) := same_new1 hA2
    have eA7 : (upd H6 A2 (.lst ((nV lf).drop (v + 1)))) A2 = some (.lst ((nV lf).drop (v + 1))) := upd_same
    generalize upd H6 A2 (.lst ((nV lf).drop (v + 1))) = H7 at s7 eA7
    refine ⟨A1, A2, _, _, rfl, rfl, s7 _ _ eA6, eA7, ?_, fun A3 hA3 => ?_⟩
    · rw [List.length_take, List.length_drop, nV_length]
      exact Nat.le_of_lt (small1000 (by omega))
    have e8 : (nV lf).take v ++ (nV lf).drop (v + 1) = nV (lf.take v ++ lf.drop (v + 1)) := by
      rw [nV_append]
      unfold nV
      rw [List.map_take, List.map_drop]
    rw [e8]
    have s8 : Same H5 (upd H7 A3 (.lst (nV (lf.take v ++ lf.drop (v + 1))))) := same_new (s6.trans s7) hA3
    have pm : (fd ++ lf).Perm (fd ++ [c] ++ (lf.take v ++ lf.drop (v + 1))) := by
      rw [List.append_assoc]
      refine List.Perm.append_left fd ?_
      conv => lhs; rw [← cut]
      exact List.perm_middle
    refine ⟨A3, lf.take v ++ lf.drop (v + 1), fd ++ [c], _, _, rfl, sx05.trans (SX.of s8), rl5.same s8, upd_same, s8 _ _ eF5, ?_, ?_, ?_, ?_, pm.nodup nd, fun x hx => lt x (pm.mem_iff.mpr hx)⟩
    · exact fun z => by rw [z, (s6.trans s7) _ _ eF5] at hA3; cases hA3
    · exact fun z => by
        obtain ⟨z', t, h⟩ := (rl5.same (s6.trans s7)).at_
        rw [z, h] at hA3; cases hA3
    · rw [List.length_append, List.length_take, List.length_drop]
      omega
    · rw [List.length_append, lfd]
      rfl
  · rintro σ H3 ⟨L, lf, fd, y4, y5, rfl, sx, rl, eL, eF, nLF, nLr, ll, lfd, nd, lt⟩
    have e : ((m : Int)).toNat = m := by omega
    refine ⟨_, rfl, q H3 F fd sx rl hF0 eF (lfd.trans e) (List.nodup_append.mp nd).1 fun x hx => lt x (List.mem_append_left _ hx)⟩
end
end Ck

namespace Ck
open PySem PySem.Spec PyProof.Rows L2
/-! ### the edges in a dict of pairs -/
def pk (e : Nat × Nat) : List Key := [nk e.1, nk e.2]
theorem pk_inj {a b : Nat × Nat} (h : pk a = pk b) : a = b := by
  unfold pk at h
  injection h with h1 h2
  injection h2 with h2 _
  exact Prod.ext (nk_inj h1) (nk_inj h2)
structure EdIs (n : Nat) (kvs : List (List Key × V)) (es : List (Nat × Nat)) : Prop where
  keys : kvs.map (·.1) = es.map pk
  nd : es.Nodup
  ok : ∀ e ∈ es, e.1 < e.2 ∧ e.2 < n
theorem EdIs.nil (n : Nat) : EdIs n [] [] := ⟨rfl, .nil, fun _ h => nomatch h⟩
theorem EdIs.put {n : Nat} {kvs : List (List Key × V)} {es : List (Nat × Nat)} (d : EdIs n kvs es) (e : Nat × Nat) (he : e.1 < e.2 ∧ e.2 < n) (v : V) : ∃ es', EdIs n (putK kvs (pk e) v) es' ∧ es'.length ≤ es.length + 1 := by
  by_cases h : (kvs.any fun kv => decide (kv.1 = pk e)) = true
  · refine ⟨es, ⟨?_, d.nd, d.ok⟩, Nat.le_succ _⟩
    rw [← d.keys]
    unfold putK
    rw [if_pos h, List.map_map]
    apply List.map_congr_left
    intro kv _
    show (if kv.1 = pk e then (kv.1, v) else kv).1 = kv.1
    split <;> rfl
  · refine ⟨es ++ [e], ⟨?_, ?_, fun f hf => ?_⟩, by rw [List.length_append]; exact Nat.le_refl _⟩
    · unfold putK
      rw [if_neg h, List.map_append, List.map_append, d.keys]
      rfl
    · rw [List.nodup_append]
      refine ⟨d.nd, by simp, fun a ha b hb => ?_⟩
      rw [List.mem_singleton.mp hb]
      intro z
      apply h
      have m : pk e ∈ kvs.map (·.1) := by rw [d.keys]; exact List.mem_map.mpr ⟨a, ha, by rw [z]⟩
      obtain ⟨kv, hkv, ek⟩ := List.mem_map.mp m
      exact List.any_eq_true.mpr ⟨kv, hkv, decide_eq_true ek⟩
    · rcases List.mem_append.mp hf with hf | hf
      · exact d.ok f hf
      · rw [List.mem_singleton.mp hf]; exact he
theorem EdIs.len {n : Nat} {kvs : List (List Key × V)} {es : List (Nat × Nat)} (d : EdIs n kvs es) : kvs.length = es.length := by
  have := congrArg List.length d.keys
  rw [List.length_map, List.length_map] at this
  exact this
def ip (e : Nat × Nat) : Int × Int := ((e.1 : Int), (e.2 : Int))
theorem sort_pairs {es : List (Nat × Nat)} {ks' : List (Int × Int)} (hp : ks'.Perm (es.map ip)) (hs : ks'.Pairwise pLe) (nd : es.Nodup) : ∃ qs : List (Nat × Nat), ks' = qs.map ip ∧ qs.Pairwise eLt ∧ qs.Perm es := by
  let g : Int × Int → Nat × Nat := fun p => (p.1.toNat, p.2.toNat)
  have nn : ∀ k ∈ ks', ip (g k) = k := fun k hk => by
    obtain ⟨m, _, rfl⟩ := List.mem_map.mp (hp.mem_iff.mp hk)
    show ip (((m.1 : Int)).toNat, ((m.2 : Int)).toNat) = ip m
    rw [Int.toNat_natCast, Int.toNat_natCast]
  have en : ks' = (ks'.map g).map ip := by
    rw [List.map_map]
    conv => lhs; rw [← List.map_id ks']
    apply List.map_congr_left
    intro k hk
    exact (nn k hk).symm
  have pm : (ks'.map g).Perm es := by
    have := hp.map g
    rw [List.map_map] at this
    have e2 : List.map (g ∘ ip) es = es := by
      conv => rhs; rw [← List.map_id es]
      apply List.map_congr_left
      intro k _
      rfl
    rw [e2] at this
    exact this
  refine ⟨ks'.map g, en, ?_, pm⟩
  have nd2 : (ks'.map g).Nodup := pm.symm.nodup nd
  have le2 : (ks'.map g).Pairwise fun a b => a.1 < b.1 ∨ (a.1 = b.1 ∧ a.2 ≤ b.2) := by
    rw [List.pairwise_map]
    refine List.Pairwise.imp_of_mem (fun {a b} ma mb h => ?_) hs
    · have na := nn a ma
      have nb := nn b mb
      have a1 : a.1 = ((a.1.toNat : Nat) : Int) := (congrArg Prod.fst na).symm
      have b1 : b.1 = ((b.1.toNat : Nat) : Int) := (congrArg Prod.fst nb).symm
      unfold pLe at h
      show a.1.toNat < b.1.toNat ∨ (a.1.toNat = b.1.toNat ∧ a.2.toNat ≤ b.2.toNat)
      rcases h with z | ⟨z1, z2⟩
      · exact .inl (by omega)
      · exact .inr ⟨by omega, by omega⟩
  have both := List.Pairwise.and le2 nd2
  exact both.imp fun {a b} h => by
    rcases h.1 with z | ⟨z1, z2⟩
    · exact .inl z
    · exact .inr ⟨z1, Nat.lt_of_le_of_ne z2 fun z => h.2 (Prod.ext z1 z)⟩
section
variable {P : Program} {w : World} {K : PySem.W.Frag} {mg : Str → Option Value} {base : Heap}
/-! ### _law_web -/
theorem edges_of {H H' : Hp} (s : ∀ (t : Addr) (k : Int × Int), H t = some (.tup [.int k.1, .int k.2]) → H' t = some (.tup [.int k.1, .int k.2])) : ∀ {ts : List Addr} {qs : List (Nat × Nat)}, Paired (fun (t : Addr) (k : Int × Int) => H t = some (.tup [.int k.1, .int k.2])) ts (qs.map ip) → Paired (EdgeAt H') ts qs
  | [], [], _ => .nil
  | t :: ts, q :: qs, .cons h r => .cons (s t (ip q) h) (edges_of s r)
theorem mk_e {a b n : Nat} (hab : a ≠ b) (ha : a < n) (hb : b < n) : ∃ e : Nat × Nat, [V.int (if (b : Int) < (a : Int) then (b : Int) else (a : Int)), V.int (if (b : Int) > (a : Int) then (b : Int) else (a : Int))] = (pk e).map kV ∧ e.1 < e.2 ∧ e.2 < n := by
  by_cases h : a < b
  · refine ⟨(a, b), ?_, h, hb⟩
    rw [if_neg (by omega), if_pos (by omega)]
    rfl
  · refine ⟨(b, a), ?_, show b < a by omega, ha⟩
    rw [if_pos (by omega), if_neg (by omega)]
    rfl
def spWeb (ns : List Int) (K : PySem.W.Frag) : Sp := fun vs H Q _ => ∃ (ra sa : Addr), vs = [.ref ra, .int 6] ∧ ns.length ≤ 1000 ∧ RowL K ns sa H ra ∧
  ∀ H' (r : Addr) (n : Nat) (es : List (Nat × Nat)), SX ra H H' → RowL K ns sa H' ra → H r = none → WebAt H' r n es → GoodWeb n es → Q (.ref r) H'
abbrev N_law_web : List Str := ["_law_row", "_law_most", "_law_many", "_law_edges", "_law_way", "_law_names", "_law_k", "_law_a", "_law_b", "_law_turn"]
theorem sc_law_web : FnScope N_law_web ["_law_row", "_law_most"] (defScope s_law_web) := ⟨rfl, rfl, rfl, by decide +kernel, rfl, by decide +kernel, by decide +kernel⟩
theorem ok_law_web (T : Tx mg) (ns : List Int) (hF : Has K mg "_law_web" s_law_web) (G_law_taken : Cl P w K mg base 1 "_law_taken" (spTake ns K)) (G_law_order : Cl P w K mg base 2 "_law_order" (spOrd ns K)) : Cl P w K mg base 3 "_law_web" (spWeb ns K) := by
  refine cl_of hF sc_law_web (fun vs H Q E h => by obtain ⟨ra, sa, rfl, _⟩ := h; rfl) (fun _ _ _ _ _ _ us hl => match us, hl with | [_, _], _ => rfl) fun f cdv A outer s H vs Q E hr h => ?_
  obtain ⟨ra, sa, rfl, hns, hR, q⟩ := h
  refine ⟨_, (pss_cons (ps_par (i := 2) (j := 3) (by rfl) sc_law_web.nd rfl rfl (by decide) rfl rfl (pa_cons (pe_op op_add pe_int (pc hr G_law_taken (by first | decide | omega) (by rfl) (pa_cons (pv 0) (pa_cons (pv 1) pa_nil)))) (pa_cons pe_dnewT pa_nil)) (by rfl))
    (pss_cons (ps_set (i := 4) sc_law_web.nd rfl (.inl rfl) (pc hr G_law_taken (by first | decide | omega) (by rfl) (pa_cons (pv 0) (pa_cons pe_int pa_nil))))
    (pss_cons (ps_set (i := 5) sc_law_web.nd rfl (.inl rfl) (pc hr G_law_order (by first | decide | omega) (by rfl) (pa_cons (pv 0) (pa_cons (pv 2) pa_nil))))
    (pss_cons (ps_for PassesOwn.never rfl (pi_range2 (by rfl) T.range_ (pa_cons pe_int (pa_cons (pv 2) pa_nil))) (pg_name (i := 6) sc_law_web.nd rfl (.inl rfl)) (pss_one (ps_if (PW.pt (pw_or (pt_cmpR op_ne (pv 4) pe_int (nomark _)) (pw_or1 (pt_cmpR op_gt (pc hr G_law_taken (by first | decide | omega) (by rfl) (pa_cons (pv 0) (pa_cons pe_int pa_nil))) pe_int (nomark _))))) (pss_cons (ps_par (i := 7) (j := 8) (by rfl) sc_law_web.nd rfl rfl (by decide) rfl rfl (pa_cons (pe_ix ix_list (pv 5) (pv 6) (fun _ _ => rfl)) (pa_cons (pe_ix ix_list (pv 5) (pc hr G_law_taken (by first | decide | omega) (by rfl) (pa_cons (pv 0) (pa_cons (pv 6) pa_nil))) (fun _ _ => rfl)) pa_nil)) (by rfl))
    (pss_one (ps_dput (hu_of hr) (pv 3) (pe_tup (pa_cons (pe_callB (call_min2 rfl) (by rfl) T.min_ boot_min (pa_cons (pv 7) (pa_cons (pv 8) pa_nil))) (pa_cons (pe_callB (call_max2 rfl) (by rfl) T.max_ boot_max (pa_cons (pv 7) (pa_cons (pv 8) pa_nil))) pa_nil))) pe_bl rfl))) pss_nil)))
    (pss_cons (ps_for PassesOwn.never rfl (pi_range1 (by rfl) T.range_ (pa_cons (pe_ifExp (pt_cmpR op_eq (pv 4) pe_int (nomark _)) (pc hr G_law_taken (by first | decide | omega) (by rfl) (pa_cons (pv 0) (pa_cons pe_int pa_nil))) pe_int) pa_nil)) (pg_name (i := 9) sc_law_web.nd rfl (.inl rfl)) (pss_cons (ps_par (i := 7) (j := 8) (by rfl) sc_law_web.nd rfl rfl (by decide) rfl rfl (pa_cons (pc hr G_law_taken (by first | decide | omega) (by rfl) (pa_cons (pv 0) (pa_cons (pv 2) pa_nil))) (pa_cons (pc hr G_law_taken (by first | decide | omega) (by rfl) (pa_cons (pv 0) (pa_cons (pv 2) pa_nil))) pa_nil)) (by rfl))
    (pss_one (ps_if (pt_cmpR op_ne (pv 7) (pv 8) (nomark _)) (pss_one (ps_dput (hu_of hr) (pv 3) (pe_tup (pa_cons (pe_callB (call_min2 rfl) (by rfl) T.min_ boot_min (pa_cons (pv 7) (pa_cons (pv 8) pa_nil))) (pa_cons (pe_callB (call_max2 rfl) (by rfl) T.max_ boot_max (pa_cons (pv 7) (pa_cons (pv 8) pa_nil))) pa_nil))) pe_bl rfl)) pss_nil))))
    (pss_one (ps_ret (pe_tup (pa_cons (pv 2) (pa_cons (pe_callTy call_tuple_of (by rfl) T.tuple_ boot_tuple (pa_cons (pe_callB (cr_sortedKP rfl hr.units) (by rfl) T.sorted_ boot_sorted (pa_cons (pe_keys (pv 3)) pa_nil)) pa_nil)) pa_nil)))))))))), ?_⟩
  refine ⟨_, rfl, _, rfl, ra, sa, 6, rfl, by decide, by decide, hns, hR, fun H1 v sx1 r1 hv => ?_⟩
  refine ⟨1, _, rfl, rfl, fun ED hED => ?_⟩
  obtain ⟨n, en, n1, n6⟩ : ∃ n : Nat, (1 : Int) + (v : Int) = (n : Int) ∧ 1 ≤ n ∧ n ≤ 6 := ⟨1 + v, by omega, by omega, by omega⟩
  have hED0 : H ED = none := by
    cases e : H ED with
    | none => rfl
    | some o =>
      by_cases z : ED = ra
      · obtain ⟨y, t, h⟩ := r1.at_
        rw [z, h] at hED; cases hED
      · rw [sx1 _ _ z e] at hED; cases hED
  have nEr : ED ≠ ra := fun z => by
    obtain ⟨y, t, h⟩ := r1.at_
    rw [z, h] at hED; cases hED
  have s2 : Same H1 (upd H1 ED (.dT [])) := same_new1 hED
  have eE2 : (upd H1 ED (.dT [])) ED = some (.dT []) := upd_same
  generalize upd H1 ED (.dT []) = H2 at s2 eE2
  refine ⟨_, _, rfl, ?_⟩
  show tSeq _ _ _ [some (.ref ra), some (.int 6), some (.int ((1 : Int) + (v : Int))), some (.ref ED), none, none, none, none, none, none] H2
  rw [en]
  refine ⟨_, rfl, ra, sa, 4, rfl, by decide, by decide, hns, r1.same s2, fun H3 way sx3 r3 hway => ?_⟩
  refine ⟨_, rfl, _, rfl, ra, sa, n, rfl, n6, hns, r3, fun H4 NA xs sx4 r4 nN eN lx ndx ltx => ?_⟩
  have eE4 : H4 ED = some (.dT []) := sx4 _ _ nEr (sx3 _ _ nEr eE2)
  have nNE : NA ≠ ED := fun z => by rw [z, sx3 _ _ nEr eE2] at nN; cases nN
  have nNr : NA ≠ ra := fun z => by
    obtain ⟨y, t, h⟩ := r3.at_
    rw [z, h] at nN; cases nN
  have sx04 : SX ra H H4 := ((sx1.trans (SX.of s2)).trans sx3).trans sx4
  -- one more edge
  have add : ∀ (H5 : Hp) (kvs : List (List Key × V)) (es : List (Nat × Nat)) (a b : Nat), SX ra H H5 → RowL K ns sa H5 ra → H5 ED = some (.dT kvs) → H5 NA = some (.lst (nV xs)) → EdIs n kvs es → es.length ≤ 40 → a ≠ b → a < n → b < n → ∀ (p : Addr), H5 p = none → ∀ (Qn : Hp → Prop),
      (∀ H6 kvs' es', SX ra H H6 → RowL K ns sa H6 ra → H6 ED = some (.dT kvs') → H6 NA = some (.lst (nV xs)) → EdIs n kvs' es' → es'.length ≤ es.length + 1 → Qn H6) →
      ∃ a' H6, V.ref ED = V.ref a' ∧ DPut (upd H5 p (.tup [V.int (if (b : Int) < (a : Int) then (b : Int) else (a : Int)), V.int (if (b : Int) > (a : Int) then (b : Int) else (a : Int))])) a' (.ref p) (.bl true) H6 ∧ Qn H6 := by
    intro H5 kvs es a b sx5 r5 eE5 eN5 ed les hab ha hb p hp Qn k
    obtain ⟨e, ek, e1, e2⟩ := mk_e hab ha hb
    rw [ek]
    have s6 : Same H5 (upd H5 p (.tup ((pk e).map kV))) := same_new1 hp
    have ep : (upd H5 p (.tup ((pk e).map kV))) p = some (.tup ((pk e).map kV)) := upd_same
    generalize upd H5 p (.tup ((pk e).map kV)) = H6 at s6 ep
    obtain ⟨es', ed', le'⟩ := ed.put e ⟨e1, e2⟩ (.bl true)
    refine ⟨ED, _, rfl, DPut.t (s6 _ _ eE5) ep (small1000 (by rw [ed.len]; omega)), ?_⟩
    have sxE : SX ED H6 (upd H6 ED (.dT (putK kvs (pk e) (.bl true)))) := SX.upd
    exact k _ _ es' (fun b o nb z => sxE _ _ (ne_of_none z hED0) (s6 _ _ (sx5 _ _ nb z))) (hR.keep hED0 (r5.same s6) sxE) upd_same (sxE _ _ nNE (s6 _ _ eN5)) ed' le'
  refine ⟨_, rfl, 1, n, rfl, ⟨by decide, by decide, by omega, by omega⟩, ?_⟩
  refine for_it walk_range (fun i σ H' => ∃ y6 y7 y8 y9 kvs es, σ = [some (.ref ra), some (.int 6), some (.int (n : Int)), some (.ref ED), some (.int (way : Int)), some (.ref NA), y6, y7, y8, y9] ∧ SX ra H H' ∧ RowL K ns sa H' ra ∧ H' ED = some (.dT kvs) ∧ H' NA = some (.lst (nV xs)) ∧ EdIs n kvs es ∧ es.length ≤ i)
    ⟨none, none, none, none, [], [], rfl, sx04, r4, eE4, eN, EdIs.nil n, Nat.le_refl _⟩ (fun _ _ _ _ _ => trivial) ?_ ?_
  · rintro i x σ H5' H5 hi ⟨y6, y7, y8, y9, kvs, es, rfl, sx5, r5, eE5, eN5, ed, le⟩ ⟨rfl, ex⟩
    have hi' : i + 1 < n := by omega
    have ek : x = V.int ((i + 1 : Nat) : Int) := by rw [ex]; exact congrArg V.int (by omega)
    subst ek
    have hil : i + 1 < xs.length := by omega
    have ga : xs[i + 1]? = some xs[i + 1] := List.getElem?_eq_getElem hil
    refine ⟨_, rfl, rfl, _, rfl, ite2 (fun c => ?_) (fun c => ?_)⟩
    · refine ⟨_, rfl, _, rfl, NA, _, _, .int (xs[i + 1] : Nat), rfl, rfl, SqL.of eN5, atI_nat (nV_ix ga), _, rfl, _, rfl, _, rfl, ra, sa, i + 1, rfl, by omega, by omega, hns, r5, fun H7 u sx7 r7 hu => ?_⟩
      have hul : u < xs.length := by omega
      have gb : xs[u]? = some xs[u] := List.getElem?_eq_getElem hul
      have nab : xs[i + 1] ≠ xs[u] := fun z => List.pairwise_iff_getElem.mp ndx u (i + 1) hul hil hu z.symm
      refine ⟨NA, _, _, .int (xs[u] : Nat), rfl, rfl, SqL.of (sx7 _ _ nNr eN5), atI_nat (nV_ix gb), _, _, rfl, ?_⟩
      refine ⟨_, rfl, _, rfl, _, rfl, _, _, rfl, _, rfl, _, rfl, _, _, rfl, (by show 2 ≤ sizeLine; decide), fun p hp => ?_⟩
      exact add H7 kvs es xs[i + 1] xs[u] (sx5.trans sx7) r7 (sx7 _ _ nEr eE5) (sx7 _ _ nNr eN5) ed (by omega) nab (ltx _ (List.getElem_mem hil)) (ltx _ (List.getElem_mem hul)) p hp _ fun H8 kvs' es' sx8 r8 eE8 eN8 ed8 le8 => ⟨_, _, _, _, kvs', es', rfl, sx8, r8, eE8, eN8, ed8, by omega⟩
    · refine ⟨_, rfl, ra, sa, 4, rfl, by decide, by decide, hns, r5, fun H6 u6 sx6 r6 hu6 => ?_⟩
      have eE6 := sx6 _ _ nEr eE5
      have eN6 := sx6 _ _ nNr eN5
      have sx06 := sx5.trans sx6
      refine ⟨_, 0, rfl, rfl, _, rfl, ite2 (fun c => ?_) (fun c => ?_)⟩
      · refine ⟨_, rfl, _, rfl, NA, _, _, .int (xs[i + 1] : Nat), rfl, rfl, SqL.of eN6, atI_nat (nV_ix ga), _, rfl, _, rfl, _, rfl, ra, sa, i + 1, rfl, by omega, by omega, hns, r6, fun H7 u sx7 r7 hu => ?_⟩
        have hul : u < xs.length := by omega
        have gb : xs[u]? = some xs[u] := List.getElem?_eq_getElem hul
        have nab : xs[i + 1] ≠ xs[u] := fun z => List.pairwise_iff_getElem.mp ndx u (i + 1) hul hil hu z.symm
        refine ⟨NA, _, _, .int (xs[u] : Nat), rfl, rfl, SqL.of (sx7 _ _ nNr eN6), atI_nat (nV_ix gb), _, _, rfl, ?_⟩
        refine ⟨_, rfl, _, rfl, _, rfl, _, _, rfl, _, rfl, _, rfl, _, _, rfl, (by show 2 ≤ sizeLine; decide), fun p hp => ?_⟩
        exact add H7 kvs es xs[i + 1] xs[u] (sx06.trans sx7) r7 (sx7 _ _ nEr eE6) (sx7 _ _ nNr eN6) ed (by omega) nab (ltx _ (List.getElem_mem hil)) (ltx _ (List.getElem_mem hul)) p hp _ fun H8 kvs' es' sx8 r8 eE8 eN8 ed8 le8 => ⟨_, _, _, _, kvs', es', rfl, sx8, r8, eE8, eN8, ed8, by omega⟩
      · exact ⟨_, _, _, _, kvs, es, rfl, sx06, r6, eE6, eN6, ed, by omega⟩
  · rintro σ H5 ⟨y6, y7, y8, y9, kvs, es, rfl, sx5, r5, eE5, eN5, ed, le⟩
    have le5 : es.length ≤ 5 := by omega
    refine ⟨_, rfl, rfl, _, rfl, ite2 (fun c => ?_) (fun c => ?_)⟩
    · refine ⟨_, rfl, ra, sa, 4, rfl, by decide, by decide, hns, r5, fun H6 j sx6 r6 hj => ?_⟩
      have eE6 := sx6 _ _ nEr eE5
      have eN6 := sx6 _ _ nNr eN5
      have sx06 := sx5.trans sx6
      refine ⟨j, rfl, by omega, by omega, ?_⟩
      refine for_it walk_range (fun i σ H' => ∃ y6 y7 y8 y9 kvs es, σ = [some (.ref ra), some (.int 6), some (.int (n : Int)), some (.ref ED), some (.int (way : Int)), some (.ref NA), y6, y7, y8, y9] ∧ SX ra H H' ∧ RowL K ns sa H' ra ∧ H' ED = some (.dT kvs) ∧ H' NA = some (.lst (nV xs)) ∧ EdIs n kvs es ∧ es.length ≤ 5 + i)
        ⟨_, _, _, _, kvs, es, rfl, sx06, r6, eE6, eN6, ed, le5⟩ (fun _ _ _ _ _ => trivial) ?_ ?_
      · rintro i x σ A0 A1 hi ⟨y6, y7, y8, y9, kvs, es, rfl, sxa, ra1, eEa, eNa, ed, le⟩ ⟨rfl, ex⟩
        have hi4 : i < 4 := by omega
        refine ⟨_, rfl, _, rfl, ra, sa, n, rfl, by omega, by omega, hns, ra1, fun A2 a sxb ra2 ha => ⟨_, rfl, _, rfl, ra, sa, n, rfl, by omega, by omega, hns, ra2, fun A3 b sxc ra3 hb => ⟨_, _, rfl, ?_⟩⟩⟩
        have sx3' := (sxa.trans sxb).trans sxc
        have eE3 := sxc _ _ nEr (sxb _ _ nEr eEa)
        have eN3 := sxc _ _ nNr (sxb _ _ nNr eNa)
        refine ⟨_, rfl, _, rfl, rfl, _, rfl, ite2 (fun c => ?_) (fun c => ?_)⟩
        · have nab : a ≠ b := fun z => by
            rw [z] at c
            simp at c
          refine ⟨_, rfl, _, rfl, _, rfl, _, _, rfl, _, rfl, _, rfl, _, _, rfl, (by show 2 ≤ sizeLine; decide), fun p hp => ?_⟩
          exact add A3 kvs es a b sx3' ra3 eE3 eN3 ed (by omega) nab ha hb p hp _ fun H8 kvs' es' sx8 r8 eE8 eN8 ed8 le8 => ⟨_, _, _, _, kvs', es', rfl, sx8, r8, eE8, eN8, ed8, by omega⟩
        · exact ⟨_, _, _, _, kvs, es, rfl, sx3', ra3, eE3, eN3, ed, by omega⟩
      · rintro σ A1 ⟨y6, y7, y8, y9, kvs, es, rfl, sxa, ra1, eEa, eNa, ed, le⟩
        have le9 : es.length ≤ 50 := by omega
        refine ⟨_, rfl, _, rfl, ED, rfl, .inr ⟨_, eEa⟩, fun vv hvv => ?_⟩
        have sv : Same A1 (upd A1 vv (keysO vv ED)) := same_new1 hvv
        refine ⟨vv, ED, kvs, es.map ip, rfl, upd_same, sv _ _ eEa, ?_, fun ks' ts p hp hs hpr hpn => ?_⟩
        · rw [ed.keys, List.map_map]
          rfl
        obtain ⟨qs, rfl, asc, pm⟩ := sort_pairs hp hs ed.nd
        have sp := same_new (o := .lst (ts.map V.ref)) sv hpn
        refine ⟨p, _, rfl, .inl ⟨SqL.of upd_same, fun t ht => ⟨(by show 2 ≤ sizeLine; decide), fun r hr => ?_⟩⟩⟩
        have st := same_new (o := .tup (ts.map V.ref)) sp ht
        have sr := same_new (o := .tup [.int (n : Int), .ref t]) st hr
        have pq : Paired (EdgeAt A1) ts qs → True := fun _ => trivial
        have lm := pm.length_eq
        refine q _ r n qs (sxa.trans (SX.of sr)) (ra1.same sr) ?_ ⟨t, ts, upd_same, same_new1 hr _ _ upd_same, edges_of (fun t' k h => same_new1 hr _ _ (same_new1 ht _ _ (same_new1 hpn _ _ h))) hpr⟩ ⟨n1, n6, fun e he => ed.ok e (pm.mem_iff.mp he), asc, by omega⟩
        cases eH : H r with
        | none => rfl
        | some o =>
          by_cases z : r = ra
          · obtain ⟨y, t', h⟩ := (ra1.same st).at_
            rw [← z, hr] at h
            cases h
          · rw [st _ _ (sxa _ _ z eH)] at hr
            cases hr
    · refine ⟨0, rfl, by decide, by decide, ?_⟩
      refine for_it walk_range (fun i σ H' => ∃ y6 y7 y8 y9 kvs es, σ = [some (.ref ra), some (.int 6), some (.int (n : Int)), some (.ref ED), some (.int (way : Int)), some (.ref NA), y6, y7, y8, y9] ∧ SX ra H H' ∧ RowL K ns sa H' ra ∧ H' ED = some (.dT kvs) ∧ H' NA = some (.lst (nV xs)) ∧ EdIs n kvs es ∧ es.length ≤ 5 + i)
        ⟨_, _, _, _, kvs, es, rfl, sx5, r5, eE5, eN5, ed, le5⟩ (fun _ _ _ _ _ => trivial) ?_ ?_
      · rintro i x σ A0 A1 hi ⟨y6, y7, y8, y9, kvs, es, rfl, sxa, ra1, eEa, eNa, ed, le⟩ ⟨rfl, ex⟩
        have hi4 : i < 4 := by exact absurd hi (Nat.not_lt_zero _)
        refine ⟨_, rfl, _, rfl, ra, sa, n, rfl, by omega, by omega, hns, ra1, fun A2 a sxb ra2 ha => ⟨_, rfl, _, rfl, ra, sa, n, rfl, by omega, by omega, hns, ra2, fun A3 b sxc ra3 hb => ⟨_, _, rfl, ?_⟩⟩⟩
        have sx3' := (sxa.trans sxb).trans sxc
        have eE3 := sxc _ _ nEr (sxb _ _ nEr eEa)
        have eN3 := sxc _ _ nNr (sxb _ _ nNr eNa)
        refine ⟨_, rfl, _, rfl, rfl, _, rfl, ite2 (fun c => ?_) (fun c => ?_)⟩
        · have nab : a ≠ b := fun z => by
            rw [z] at c
            simp at c
          refine ⟨_, rfl, _, rfl, _, rfl, _, _, rfl, _, rfl, _, rfl, _, _, rfl, (by show 2 ≤ sizeLine; decide), fun p hp => ?_⟩
          exact add A3 kvs es a b sx3' ra3 eE3 eN3 ed (by omega) nab ha hb p hp _ fun H8 kvs' es' sx8 r8 eE8 eN8 ed8 le8 => ⟨_, _, _, _, kvs', es', rfl, sx8, r8, eE8, eN8, ed8, by omega⟩
        · exact ⟨_, _, _, _, kvs, es, rfl, sx3', ra3, eE3, eN3, ed, by omega⟩
      · rintro σ A1 ⟨y6, y7, y8, y9, kvs, es, rfl, sxa, ra1, eEa, eNa, ed, le⟩
        have le9 : es.length ≤ 50 := by exact Nat.le_trans le (by decide)
        refine ⟨_, rfl, _, rfl, ED, rfl, .inr ⟨_, eEa⟩, fun vv hvv => ?_⟩
        have sv : Same A1 (upd A1 vv (keysO vv ED)) := same_new1 hvv
        refine ⟨vv, ED, kvs, es.map ip, rfl, upd_same, sv _ _ eEa, ?_, fun ks' ts p hp hs hpr hpn => ?_⟩
        · rw [ed.keys, List.map_map]
          rfl
        obtain ⟨qs, rfl, asc, pm⟩ := sort_pairs hp hs ed.nd
        have sp := same_new (o := .lst (ts.map V.ref)) sv hpn
        refine ⟨p, _, rfl, .inl ⟨SqL.of upd_same, fun t ht => ⟨(by show 2 ≤ sizeLine; decide), fun r hr => ?_⟩⟩⟩
        have st := same_new (o := .tup (ts.map V.ref)) sp ht
        have sr := same_new (o := .tup [.int (n : Int), .ref t]) st hr
        have pq : Paired (EdgeAt A1) ts qs → True := fun _ => trivial
        have lm := pm.length_eq
        refine q _ r n qs (sxa.trans (SX.of sr)) (ra1.same sr) ?_ ⟨t, ts, upd_same, same_new1 hr _ _ upd_same, edges_of (fun t' k h => same_new1 hr _ _ (same_new1 ht _ _ (same_new1 hpn _ _ h))) hpr⟩ ⟨n1, n6, fun e he => ed.ok e (pm.mem_iff.mp he), asc, by omega⟩
        cases eH : H r with
        | none => rfl
        | some o =>
          by_cases z : r = ra
          · obtain ⟨y, t', h⟩ := (ra1.same st).at_
            rw [← z, hr] at h
            cases h
          · rw [st _ _ (sxa _ _ z eH)] at hr
            cases hr
end
end Ck

namespace Ck
open PySem PySem.Spec PyProof.Rows L2
/-! ### rows: the plain functions -/
def fallsTo (row : List Nat) (i : Nat) : List Nat := (List.range i).filter fun k => (row.take (k + 1)).sum % 2 == 0
def fallsIn (row : List Nat) : List Nat := fallsTo row (row.length - 1)
theorem fallsTo_succ (row : List Nat) (i : Nat) : fallsTo row (i + 1) = if (row.take (i + 1)).sum % 2 = 0 then fallsTo row i ++ [i] else fallsTo row i := by
  unfold fallsTo
  rw [List.range_succ, List.filter_append]
  by_cases h : (row.take (i + 1)).sum % 2 = 0
  · rw [if_pos h]
    simp [h]
  · rw [if_neg h]
    simp [h]
theorem fallsTo_le (row : List Nat) (i : Nat) : (fallsTo row i).length ≤ i := by
  unfold fallsTo
  exact Nat.le_trans (List.length_filter_le _ _) (by rw [List.length_range]; exact Nat.le_refl i)
def nxt (cs : List Nat) (b : Bool) (at_ : Nat) : Nat := if b = true then (cs.drop at_).sum else (cs.take at_).sum
def nextC (cs : List Nat) (b : Bool) : List Nat := (List.range (cs.length + 1)).map (nxt cs b)
def csTo (fs : List Nat) (i : Nat) : List Nat := (List.range i).foldl (fun cs k => nextC cs (fs.contains k)) [1]
def cntOf (fs : List Nat) (m : Nat) : Nat := (csTo fs (m - 1)).sum
theorem csTo_succ (fs : List Nat) (i : Nat) : csTo fs (i + 1) = nextC (csTo fs i) (fs.contains i) := by
  unfold csTo
  rw [List.range_succ, List.foldl_append]
  rfl
theorem csTo_length (fs : List Nat) : ∀ i : Nat, (csTo fs i).length = i + 1
  | 0 => rfl
  | i + 1 => by
    rw [csTo_succ]
    unfold nextC
    rw [List.length_map, List.length_range, csTo_length fs i]
theorem inV_nV (k : Nat) : ∀ fs : List Nat, inV (.int (k : Int)) (nV fs) = fs.contains k
  | [] => rfl
  | f :: fs => by
    have ih := inV_nV k fs
    show (((f : Int) == (k : Int)) || inV (.int (k : Int)) (nV fs)) = (f :: fs).contains k
    rw [ih, List.contains_cons]
    congr 1
    rw [Bool.eq_iff_iff, beq_iff_eq, beq_iff_eq]
    omega
section
variable {P : Program} {w : World} {K : PySem.W.Frag} {mg : Str → Option Value} {base : Heap}
def TupN (H : Hp) (a : Addr) (xs : List Nat) : Prop := H a = some (.tup (nV xs))
theorem nV_take (xs : List Nat) (k : Nat) : (nV xs).take k = nV (xs.take k) := by unfold nV; rw [List.map_take]
theorem nV_drop (xs : List Nat) (k : Nat) : (nV xs).drop k = nV (xs.drop k) := by unfold nV; rw [List.map_drop]
theorem nV_sum (xs : List Nat) : V.int ((xs.map fun k : Nat => (k : Int)).sum) = V.int ((xs.sum : Nat) : Int) := by rw [sum_nat_cast]
/-! ### falls_in -/
def spFallsIn : Sp := fun vs H Q _ => ∃ (a : Addr) (row : List Nat), vs = [.ref a] ∧ H a = some (.tup (nV row)) ∧ 1 ≤ row.length ∧ row.length ≤ 100 ∧ ∀ H' (r : Addr), Same H H' → H r = none → H' r = some (.lst (nV (fallsIn row))) → Q (.ref r) H'
abbrev N_falls_in : List Str := ["row", "k"]
theorem sc_falls_in : FnScope N_falls_in ["row"] (defScope s_falls_in) := ⟨rfl, rfl, rfl, by decide +kernel, rfl, by decide +kernel, by decide +kernel⟩
theorem ok_falls_in (T : Tx mg) (hF : Has K mg "falls_in" s_falls_in) : Cl P w K mg base 1 "falls_in" spFallsIn := by
  refine cl_of hF sc_falls_in (fun vs H Q E h => by obtain ⟨a, row, rfl, _⟩ := h; rfl) (fun _ _ _ _ _ _ us hl => match us, hl with | [_], _ => rfl) fun f cdv A outer s H vs Q E hr h => ?_
  obtain ⟨a, row, rfl, hA, h1, h100, q⟩ := h
  refine ⟨_, (pss_one (ps_ret (pe_lc (own := [("k", 1)]) (g := (gName 1)) rfl sc_falls_in.nd (pi_range1 (by rfl) T.range_ (pa_cons (pe_op op_sub (pe_callB call_len_seq (by rfl) T.len_ PySem.boot_len (pa_cons (pv 0) pa_nil)) pe_int) pa_nil)) (blkOk_by (own := [("k", 1)]) (N := N_falls_in) (sc := defScope s_falls_in) (by decide +kernel)) (fun _ _ _ _ _ => (pg_name (i := 1) sc_falls_in.nd rfl (.inl rfl))) (fun _ _ _ _ _ => (pts_one (pt_cmpR op_eq (pe_op op_mod (pe_callB (show CallR _ _ (rSumT K) from cr_sumT rfl) (by rfl) T.sum_ boot_sum (pa_cons (pe_slice (show SlR _ (rSlA K) from sl_tupA) (pv 0) po_none (po_some (pe_op op_add (pv 1) pe_int))) pa_nil)) pe_int) pe_int (nomark _)))) (fun _ _ _ _ _ => (pv 1))))), ?_⟩
  refine ⟨_, rfl, a, _, rfl, .inr (SqT.of hA), _, 1, rfl, rfl, _, rfl, by omega, ?_, fun D hD => ?_⟩
  · rw [nV_length]; omega
  rw [nV_length, show ((row.length : Int) - 1).toNat = row.length - 1 by omega]
  refine lc_it walk_range (fun i H' => Same H H' ∧ H' D = some (.lst (nV (fallsTo row i)))) ⟨same_new1 hD, upd_same⟩ (fun _ _ _ _ => trivial) ?_ (fun H' ⟨sm, eD⟩ => q H' D sm hD eD)
  rintro i x H1 H2 hi ⟨sm, eD⟩ ⟨rfl, ex⟩
  have ek : x = V.int ((i : Nat) : Int) := by rw [ex]; exact congrArg V.int (by omega)
  subst ek
  have hA2 := sm _ _ hA
  refine ⟨rfl, _, rfl, _, rfl, _, 1, rfl, rfl, _, rfl, a, _, rfl, SqT.of hA2, fun hw => ?_, fun _ p hp => ?_⟩
  · exfalso
    have ev : (i : Int) + 1 = ((i + 1 : Nat) : Int) := by omega
    have := hw.2
    rw [ev, HT.sIx_nat, nV_length] at this
    omega
  · have ev : (i : Int) + 1 = ((i + 1 : Nat) : Int) := by omega
    rw [ev, cut_to _ (by rw [nV_length]; omega), nV_take, nV_ints (row.take (i + 1))]
    have s2 : Same H2 (upd H2 p (.tup (((row.take (i + 1)).map fun k : Nat => (k : Int)).map V.int))) := same_new1 hp
    have e2 : (upd H2 p (.tup (((row.take (i + 1)).map fun k : Nat => (k : Int)).map V.int))) p = some (.tup (((row.take (i + 1)).map fun k : Nat => (k : Int)).map V.int)) := upd_same
    generalize upd H2 p (.tup (((row.take (i + 1)).map fun k : Nat => (k : Int)).map V.int)) = H3 at s2 e2
    have eD3 := s2 _ _ eD
    refine ⟨p, _, rfl, SqT.of e2, ?_⟩
    rw [sum_nat_cast]
    refine ⟨_, 2, rfl, rfl, (by show (0 : Int) < 2; decide), rfl, _, rfl, ite2 (fun c => ?_) (fun c => ?_)⟩
    · have c1 : (row.take (i + 1)).sum % 2 = 0 := by
        have := of_decide_eq_true c
        injection this with this
        omega
      refine ⟨_, rfl, _, eD3, ?_, fun b o z => ?_, ?_⟩
      · rw [nV_length]
        have := fallsTo_le row i
        exact small1000 (by omega)
      · rw [upd_ne (fun e => by rw [e, hD] at z; cases z)]
        exact s2 _ _ (sm _ _ z)
      · rw [upd_same, fallsTo_succ, if_pos c1, nV_append]
        rfl
    · have c1 : ¬ (row.take (i + 1)).sum % 2 = 0 := fun z => c (decide_eq_true (congrArg V.int (by omega)))
      refine ⟨sm.trans s2, ?_⟩
      rw [fallsTo_succ, if_neg c1]
      exact eD3
/-! ### next_counts -/
def spNext : Sp := fun vs H Q _ => ∃ (a : Addr) (cs : List Nat) (b : Bool), vs = [.ref a, .bl b] ∧ H a = some (.lst (nV cs)) ∧ cs.length ≤ 100 ∧ ∀ H' (r : Addr), Same H H' → H r = none → H' r = some (.lst (nV (nextC cs b))) → Q (.ref r) H'
abbrev N_next_counts : List Str := ["counts", "is_fall", "found", "at"]
theorem sc_next_counts : FnScope N_next_counts ["counts", "is_fall"] (defScope s_next_counts) := ⟨rfl, rfl, rfl, by decide +kernel, rfl, by decide +kernel, by decide +kernel⟩
theorem ok_next_counts (T : Tx mg) (hF : Has K mg "next_counts" s_next_counts) : Cl P w K mg base 1 "next_counts" spNext := by
  refine cl_of hF sc_next_counts (fun vs H Q E h => by obtain ⟨a, cs, b, rfl, _⟩ := h; rfl) (fun _ _ _ _ _ _ us hl => match us, hl with | [_, _], _ => rfl) fun f cdv A outer s H vs Q E hr h => ?_
  obtain ⟨a, cs, b, rfl, hA, h100, q⟩ := h
  refine ⟨_, (pss_cons (ps_set (i := 2) sc_next_counts.nd rfl (.inl rfl) (pe_lst pa_nil))
    (pss_cons (ps_for PassesOwn.never rfl (pi_range1 (by rfl) T.range_ (pa_cons (pe_op op_add (pe_callB call_len_seq (by rfl) T.len_ PySem.boot_len (pa_cons (pv 0) pa_nil)) pe_int) pa_nil)) (pg_name (i := 3) sc_next_counts.nd rfl (.inl rfl)) (pss_one (ps_expr (pe_bm PySem.F.plainAttrs_list PySem.F.slot_list_append PySem.F.type_list_append mt_append (pv 2) (pa_cons (pe_ifExp (pt_val (pv 1)) (pe_callB (cr_sum rfl) (by rfl) T.sum_ boot_sum (pa_cons (pe_slice sl_list (pv 0) (po_some (pv 3)) po_none) pa_nil)) (pe_callB (cr_sum rfl) (by rfl) T.sum_ boot_sum (pa_cons (pe_slice sl_list (pv 0) po_none (po_some (pv 3))) pa_nil))) pa_nil)))))
    (pss_one (ps_ret (pv 2))))), ?_⟩
  refine ⟨(by show 0 ≤ sizeLine; decide), fun F hF => ?_⟩
  have s1 : Same H (upd H F (.lst [])) := same_new1 hF
  have naF : a ≠ F := ne_of_none hA hF
  refine ⟨_, rfl, a, _, rfl, .inl (SqL.of (s1 _ _ hA)), _, 1, rfl, rfl, _, rfl, by omega, ?_, ?_⟩
  · rw [nV_length]; omega
  rw [nV_length, show ((cs.length : Int) + 1).toNat = cs.length + 1 by omega]
  refine for_it walk_range (fun i σ H' => ∃ y3, σ = [some (.ref a), some (.bl b), some (.ref F), y3] ∧ Same H H' ∧ H' F = some (.lst (nV ((List.range i).map (nxt cs b))))) ⟨none, rfl, s1, upd_same⟩ (fun _ _ _ _ _ => trivial) ?_ ?_
  · rintro i x σ H1 H2 hi ⟨y3, rfl, sm, eF⟩ ⟨rfl, ex⟩
    have ek : x = V.int ((i : Nat) : Int) := by rw [ex]; exact congrArg V.int (by omega)
    subst ek
    have hA2 := sm _ _ hA
    have fin : ∀ H3, Same H2 H3 → ∃ l xs y, V.ref F = .ref l ∧ [V.int ((nxt cs b i : Nat) : Int)] = [y] ∧ H3 l = some (.lst xs) ∧ xs.length < sizeLine ∧ ∃ y3, [some (V.ref a), some (.bl b), some (.ref F), some (.int (i : Int))] = [some (V.ref a), some (.bl b), some (.ref F), y3] ∧ Same H (upd H3 l (.lst (xs ++ [y]))) ∧ (upd H3 l (.lst (xs ++ [y]))) F = some (.lst (nV ((List.range (i + 1)).map (nxt cs b)))) := by
      intro H3 s3
      refine ⟨F, _, _, rfl, rfl, s3 _ _ eF, ?_, _, rfl, fun bb o z => ?_, ?_⟩
      · rw [nV_length, List.length_map, List.length_range]
        exact small1000 (by omega)
      · rw [upd_ne (fun e => by rw [e, hF] at z; cases z)]
        exact s3 _ _ (sm _ _ z)
      · rw [upd_same, List.range_succ, List.map_append, nV_append]
        rfl
    refine ⟨_, rfl, .inl ⟨rfl, _, SqL.of eF⟩, _, rfl, ?_⟩
    refine ⟨b, rfl, ite2 (fun c => ?_) (fun c => ?_)⟩
    · refine ⟨_, rfl, _, rfl, _, rfl, a, _, rfl, SqL.of hA2, fun p hp => ?_⟩
      rw [cut_from _ (by rw [nV_length]; omega), nV_drop, nV_ints (cs.drop i)]
      refine ⟨p, _, rfl, SqL.of upd_same, ?_⟩
      rw [sum_nat_cast]
      have e : nxt cs b i = (cs.drop i).sum := by unfold nxt; rw [if_pos c]
      rw [← e]
      exact fin _ (same_new1 hp)
    · refine ⟨_, rfl, _, rfl, _, rfl, a, _, rfl, SqL.of hA2, fun p hp => ?_⟩
      rw [cut_to _ (by rw [nV_length]; omega), nV_take, nV_ints (cs.take i)]
      refine ⟨p, _, rfl, SqL.of upd_same, ?_⟩
      rw [sum_nat_cast]
      have e : nxt cs b i = (cs.take i).sum := by unfold nxt; rw [if_neg c]
      rw [← e]
      exact fin _ (same_new1 hp)
  · rintro σ H1 ⟨y3, rfl, sm, eF⟩
    exact ⟨_, rfl, q H1 F sm hF eF⟩
/-! ### count_of -/
theorem flat_nV (fs : List Nat) : (nV fs).all flatV = true := by
  rw [List.all_eq_true]
  intro x hx
  obtain ⟨k, _, rfl⟩ := List.mem_map.mp (show x ∈ List.map (fun k : Nat => V.int (k : Int)) fs from hx)
  rfl
def spCountOf : Sp := fun vs H Q _ => ∃ (a : Addr) (m : Nat) (fs : List Nat), vs = [.ref a, .int m] ∧ (H a = some (.lst (nV fs)) ∨ H a = some (.tup (nV fs))) ∧ 1 ≤ m ∧ m ≤ 40 ∧ ∀ H', Same H H' → Q (.int (cntOf fs m : Nat)) H'
abbrev N_count_of : List Str := ["falls", "many", "counts", "k"]
theorem sc_count_of : FnScope N_count_of ["falls", "many"] (defScope s_count_of) := ⟨rfl, rfl, rfl, by decide +kernel, rfl, by decide +kernel, by decide +kernel⟩
theorem ok_count_of (T : Tx mg) (hF : Has K mg "count_of" s_count_of) (G_next_counts : Cl P w K mg base 1 "next_counts" spNext) : Cl P w K mg base 2 "count_of" spCountOf := by
  refine cl_of hF sc_count_of (fun vs H Q E h => by obtain ⟨a, m, fs, rfl, _⟩ := h; rfl) (fun _ _ _ _ _ _ us hl => match us, hl with | [_, _], _ => rfl) fun f cdv A outer s H vs Q E hr h => ?_
  obtain ⟨a, m, fs, rfl, hA, m1, m40, q⟩ := h
  refine ⟨_, (pss_cons (ps_set (i := 2) sc_count_of.nd rfl (.inl rfl) (pe_lst (pa_cons pe_int pa_nil)))
    (pss_cons (ps_for PassesOwn.never rfl (pi_range2 (by rfl) T.range_ (pa_cons pe_int (pa_cons (pv 1) pa_nil))) (pg_name (i := 3) sc_count_of.nd rfl (.inl rfl)) (pss_one (ps_set (i := 2) sc_count_of.nd rfl (.inl rfl) (pc hr G_next_counts (by first | decide | omega) (by rfl) (pa_cons (pv 2) (pa_cons (pe_cmpR op_in_seq (pe_op op_sub (pv 3) pe_int) (pv 0) (by rfl)) pa_nil))))))
    (pss_one (ps_ret (pe_callB (cr_sum rfl) (by rfl) T.sum_ boot_sum (pa_cons (pv 2) pa_nil)))))), ?_⟩
  refine ⟨(by show 1 ≤ sizeLine; decide), fun F hF => ?_⟩
  refine ⟨_, rfl, 1, m, rfl, ⟨by decide, by decide, by omega, by omega⟩, ?_⟩
  refine for_it walk_range (fun i σ H' => ∃ r y4, σ = [some (.ref a), some (.int m), some (.ref r), y4] ∧ Same H H' ∧ H' r = some (.lst (nV (csTo fs i)))) ⟨F, none, rfl, same_new1 hF, upd_same⟩ (fun _ _ _ _ _ => trivial) ?_ ?_
  · rintro i x σ H1 H2 hi ⟨r, y4, rfl, sm, er⟩ ⟨rfl, ex⟩
    have ek : x = V.int ((i + 1 : Nat) : Int) := by rw [ex]; exact congrArg V.int (by omega)
    subst ek
    have hA2 : SqL K H2 a (nV fs) ∨ SqT K H2 a (nV fs) := hA.elim (fun h => .inl (SqL.of (sm _ _ h))) fun h => .inr (SqT.of (sm _ _ h))
    refine ⟨_, rfl, _, rfl, _, 1, rfl, rfl, _, rfl, a, _, rfl, hA2, rfl, flat_nV fs, ?_⟩
    have ei : V.int (((i + 1 : Nat) : Int) - 1) = V.int ((i : Nat) : Int) := congrArg V.int (by omega)
    refine ⟨r, csTo fs i, fs.contains i, ?_, er, ?_, fun H3 r3 s3 n3 e3 => ?_⟩
    · show [V.ref r, V.bl (inV (V.int (((i + 1 : Nat) : Int) - 1)) (nV fs))] = _
      rw [ei, inV_nV]
    · rw [csTo_length]
      have : i < ((m : Int) - 1).toNat := hi
      omega
    · refine ⟨r3, _, rfl, sm.trans s3, ?_⟩
      rw [csTo_succ]
      exact e3
  · rintro σ H1 ⟨r, y4, rfl, sm, er⟩
    rw [show ((m : Int) - 1).toNat = m - 1 by omega, nV_ints] at er
    refine ⟨_, rfl, r, _, rfl, SqL.of er, ?_⟩
    rw [sum_nat_cast]
    exact q H1 sm
/-! ### need_many -/
def spNeedMany : Sp := fun vs H Q _ => ∃ m : Nat, vs = [.int m] ∧ 1 ≤ m ∧ m ≤ 9 ∧ Q .non H
abbrev N_need_many : List Str := ["many"]
theorem sc_need_many : FnScope N_need_many ["many"] (defScope s_need_many) := ⟨rfl, rfl, rfl, by decide +kernel, rfl, by decide +kernel, by decide +kernel⟩
theorem ok_need_many (T : Tx mg) (hF : Has K mg "need_many" s_need_many) (G_is_in : Cl P w K mg base 1 "is_in" spIsIn) : Cl P w K mg base 2 "need_many" spNeedMany := by
  refine cl_of hF sc_need_many (fun vs H Q E h => by obtain ⟨m, rfl, _⟩ := h; rfl) (fun _ _ _ _ _ _ us hl => match us, hl with | [_], _ => rfl) fun f cdv A outer s H vs Q E hr h => ?_
  obtain ⟨m, rfl, m1, m9, q⟩ := h
  refine ⟨_, (pss_one (ps_if (pt_not (pt_val (pc hr G_is_in (by first | decide | omega) (by rfl) (pa_cons (pv 0) (pa_cons pe_int (pa_cons (pe_gi T.mr) pa_nil)))))) pss_never pss_nil)), ?_⟩
  have en : inB (m : Int) 1 40 = true := by
    unfold inB
    rw [decide_eq_true (by omega), decide_eq_true (by omega)]
    rfl
  exact ⟨_, rfl, m, 1, 40, rfl, true, congrArg V.bl en, iteF q⟩
/-! ### chosen, rows_by_falls -/
def choTo (wh : Nat) : Nat → Nat
  | 0 => 1
  | k + 1 => choTo wh k * (wh - k) / (k + 1)
def spChosen : Sp := fun vs H Q _ => ∃ wh k : Nat, vs = [.int wh, .int k] ∧ wh ≤ 8 ∧ k ≤ wh ∧ Q (.int (choTo wh k : Nat)) H
abbrev N_chosen : List Str := ["whole", "part", "found", "k"]
theorem sc_chosen : FnScope N_chosen ["whole", "part"] (defScope s_chosen) := ⟨rfl, rfl, rfl, by decide +kernel, rfl, by decide +kernel, by decide +kernel⟩
theorem ok_chosen (T : Tx mg) (hF : Has K mg "chosen" s_chosen) : Cl P w K mg base 1 "chosen" spChosen := by
  refine cl_of hF sc_chosen (fun vs H Q E h => by obtain ⟨wh, k, rfl, _⟩ := h; rfl) (fun _ _ _ _ _ _ us hl => match us, hl with | [_, _], _ => rfl) fun f cdv A outer s H vs Q E hr h => ?_
  obtain ⟨wh, k, rfl, w8, kw, q⟩ := h
  refine ⟨_, (pss_cons (ps_set (i := 2) sc_chosen.nd rfl (.inl rfl) pe_int)
    (pss_cons (ps_for PassesOwn.never rfl (pi_range1 (by rfl) T.range_ (pa_cons (pv 1) pa_nil)) (pg_name (i := 3) sc_chosen.nd rfl (.inl rfl)) (pss_one (ps_set (i := 2) sc_chosen.nd rfl (.inl rfl) (pe_op op_fdivN (pe_op op_mul (pv 2) (pe_op op_sub (pv 0) (pv 3))) (pe_op op_add (pv 3) pe_int)))))
    (pss_one (ps_ret (pv 2))))), ?_⟩
  refine ⟨_, rfl, k, rfl, by omega, by omega, ?_⟩
  refine for_it walk_range (fun i σ H' => ∃ y3, σ = [some (.int wh), some (.int k), some (.int (choTo wh i : Nat)), y3] ∧ H' = H) ⟨none, rfl, rfl⟩ (fun _ _ _ _ _ => trivial) ?_ ?_
  · rintro i x σ H1 H2 hi ⟨y3, rfl, rfl⟩ ⟨rfl, ex⟩
    have ek : x = V.int ((i : Nat) : Int) := by rw [ex]; exact congrArg V.int (by omega)
    subst ek
    have hi' : i < k := by omega
    refine ⟨_, rfl, _, rfl, _, rfl, wh, i, rfl, rfl, _, _, rfl, rfl, .inr (by omega), _, rfl, i, 1, rfl, rfl, _, _, rfl, rfl, (by show CDivN _ _; exact ⟨by omega, by omega⟩), some (.int i), ?_, rfl⟩
    show [some (V.int wh), some (V.int k), some (V.int (Int.fdiv (((choTo wh i : Nat) : Int) * ((wh : Int) - (i : Int))) ((i : Int) + 1))), some (V.int i)] = _
    have e : Int.fdiv (((choTo wh i : Nat) : Int) * ((wh : Int) - (i : Int))) ((i : Int) + 1) = ((choTo wh (i + 1) : Nat) : Int) := by
      have a1 : ((wh : Int) - (i : Int)) = ((wh - i : Nat) : Int) := by omega
      have a2 : ((i : Int) + 1) = ((i + 1 : Nat) : Int) := by omega
      rw [a1, a2, ← Int.natCast_mul, Int.fdiv_eq_ediv_of_nonneg _ (by omega), ← Int.natCast_ediv]
      rfl
    rw [e]
  · rintro σ H1 ⟨y3, rfl, rfl⟩
    refine ⟨_, rfl, ?_⟩
    rw [show ((k : Int)).toNat = k by omega]
    exact q
def rowsF (m : Nat) : List Nat := (List.range m).map (choTo (m - 1))
def spRowsF : Sp := fun vs H Q _ => ∃ m : Nat, vs = [.int m] ∧ 1 ≤ m ∧ m ≤ 9 ∧ ∀ H' (r : Addr), Same H H' → H' r = some (.tup (nV (rowsF m))) → Q (.ref r) H'
abbrev N_rows_by_falls : List Str := ["many", "k"]
theorem sc_rows_by_falls : FnScope N_rows_by_falls ["many"] (defScope s_rows_by_falls) := ⟨rfl, rfl, rfl, by decide +kernel, rfl, by decide +kernel, by decide +kernel⟩
theorem ok_rows_by_falls (T : Tx mg) (hF : Has K mg "rows_by_falls" s_rows_by_falls) (G_need_many : Cl P w K mg base 2 "need_many" spNeedMany) (G_chosen : Cl P w K mg base 1 "chosen" spChosen) : Cl P w K mg base 3 "rows_by_falls" spRowsF := by
  refine cl_of hF sc_rows_by_falls (fun vs H Q E h => by obtain ⟨m, rfl, _⟩ := h; rfl) (fun _ _ _ _ _ _ us hl => match us, hl with | [_], _ => rfl) fun f cdv A outer s H vs Q E hr h => ?_
  obtain ⟨m, rfl, m1, m9, q⟩ := h
  refine ⟨_, (pss_cons (ps_expr (pc hr G_need_many (by first | decide | omega) (by rfl) (pa_cons (pv 0) pa_nil)))
    (pss_one (ps_ret (pe_callTy call_tuple_of (by rfl) T.tuple_ boot_tuple (pa_cons (pe_lc (own := [("k", 1)]) (g := (gName 1)) (tt := tYes) rfl sc_rows_by_falls.nd (pi_range1 (by rfl) T.range_ (pa_cons (pv 0) pa_nil)) (blkOk_by (own := [("k", 1)]) (N := N_rows_by_falls) (sc := defScope s_rows_by_falls) (by decide +kernel)) (fun _ _ _ _ _ => (pg_name (i := 1) sc_rows_by_falls.nd rfl (.inl rfl))) (fun _ _ _ _ _ => pts_nil) (fun _ _ _ _ _ => (pc hr G_chosen (by first | decide | omega) (by rfl) (pa_cons (pe_op op_sub (pv 0) pe_int) (pa_cons (pv 1) pa_nil))))) pa_nil))))), ?_⟩
  refine ⟨_, rfl, m, rfl, m1, m9, ?_⟩
  refine ⟨_, rfl, m, rfl, by omega, by omega, fun D hD => ?_⟩
  rw [show ((m : Int)).toNat = m by omega]
  refine lc_it walk_range (fun i H' => Same H H' ∧ H' D = some (.lst (nV ((List.range i).map (choTo (m - 1)))))) ⟨same_new1 hD, upd_same⟩ (fun _ _ _ _ => trivial) ?_ ?_
  · rintro i x H1 H2 hi ⟨sm, eD⟩ ⟨rfl, ex⟩
    have ek : x = V.int ((i : Nat) : Int) := by rw [ex]; exact congrArg V.int (by omega)
    subst ek
    refine ⟨rfl, _, rfl, m, 1, rfl, rfl, _, rfl, m - 1, i, ?_, by omega, by omega, ?_⟩
    · show [V.int ((m : Int) - 1), V.int (i : Int)] = _
      rw [show ((m : Int) - 1) = ((m - 1 : Nat) : Int) by omega]
    refine ⟨_, eD, ?_, fun b o z => ?_, ?_⟩
    · rw [nV_length, List.length_map, List.length_range]
      exact small1000 (by omega)
    · rw [upd_ne (fun e => by rw [e, hD] at z; cases z)]
      exact sm _ _ z
    · rw [upd_same, List.range_succ, List.map_append, nV_append]
      rfl
  · rintro H1 ⟨sm, eD⟩
    exact ⟨D, _, rfl, .inl ⟨SqL.of eD, fun t ht => q _ t (sm.trans (same_new1 ht)) upd_same⟩⟩
/-! ### orders_by_falls -/
def eu (ks : List Nat) (size k : Nat) : Nat := (k + 1) * (ks ++ [0]).getD k 0 + (size - k) * (0 :: ks).getD k 0
def euNext (ks : List Nat) (size : Nat) : List Nat := (List.range size).map (eu ks size)
def euTo : Nat → List Nat
  | 0 => [1]
  | i + 1 => euNext (euTo i) (i + 2)
theorem euTo_length : ∀ i : Nat, (euTo i).length = i + 1
  | 0 => rfl
  | i + 1 => by
    show (euNext _ _).length = _
    unfold euNext
    rw [List.length_map, List.length_range]
def ordF (m : Nat) : List Nat := euTo (m - 1)
theorem eu_cast (k i a b : Nat) (h : k < i + 2) : ((k : Int) + 1) * (a : Int) + (((i + 2 : Nat) : Int) - (k : Int)) * (b : Int) = (((k + 1) * a + (i + 2 - k) * b : Nat) : Int) := by
  have h1 : ((i + 2 : Nat) : Int) - (k : Int) = ((i + 2 - k : Nat) : Int) := by omega
  rw [h1]
  generalize i + 2 - k = c
  push_cast
  rfl
theorem get_D {l : List Nat} {k : Nat} (h : k < l.length) : l[k]? = some (l.getD k 0) := by
  rw [List.getD_eq_getElem?_getD, List.getElem?_eq_getElem h]
  rfl
def spOrdF : Sp := fun vs H Q _ => ∃ m : Nat, vs = [.int m] ∧ 1 ≤ m ∧ m ≤ 9 ∧ ∀ H' (r : Addr), Same H H' → H' r = some (.tup (nV (ordF m))) → Q (.ref r) H'
abbrev N_orders_by_falls : List Str := ["many", "found", "size", "long", "short", "k"]
theorem sc_orders_by_falls : FnScope N_orders_by_falls ["many"] (defScope s_orders_by_falls) := ⟨rfl, rfl, rfl, by decide +kernel, rfl, by decide +kernel, by decide +kernel⟩
theorem ok_orders_by_falls (T : Tx mg) (hF : Has K mg "orders_by_falls" s_orders_by_falls) (G_need_many : Cl P w K mg base 2 "need_many" spNeedMany) : Cl P w K mg base 3 "orders_by_falls" spOrdF := by
  refine cl_of hF sc_orders_by_falls (fun vs H Q E h => by obtain ⟨m, rfl, _⟩ := h; rfl) (fun _ _ _ _ _ _ us hl => match us, hl with | [_], _ => rfl) fun f cdv A outer s H vs Q E hr h => ?_
  obtain ⟨m, rfl, m1, m9, q⟩ := h
  refine ⟨_, (pss_cons (ps_expr (pc hr G_need_many (by first | decide | omega) (by rfl) (pa_cons (pv 0) pa_nil)))
    (pss_cons (ps_set (i := 1) sc_orders_by_falls.nd rfl (.inl rfl) (pe_lst (pa_cons pe_int pa_nil)))
    (pss_cons (ps_for PassesOwn.never rfl (pi_range2 (by rfl) T.range_ (pa_cons pe_int (pa_cons (pe_op op_add (pv 0) pe_int) pa_nil))) (pg_name (i := 2) sc_orders_by_falls.nd rfl (.inr rfl)) (pss_cons (ps_asg (pe_tup (pa_cons (pe_op op_cat (pv 1) (pe_lst (pa_cons pe_int pa_nil))) (pa_cons (pe_op op_cat (pe_lst (pa_cons pe_int pa_nil)) (pv 1)) pa_nil))) (pg_tup rfl (pgs_cons (pg_name (i := 3) sc_orders_by_falls.nd rfl (.inr rfl)) (pgs_cons (pg_name (i := 4) sc_orders_by_falls.nd rfl (.inr rfl)) pgs_nil))))
    (pss_one (ps_setLc (i := 1) (own := [("k", 5)]) (g := (gName 5)) (tt := tYes) rfl sc_orders_by_falls.nd rfl rfl (sw_true rfl rfl rfl (by decide +kernel)) (pi_range1 (by rfl) T.range_ (pa_cons (pv 2) pa_nil)) (blkOk_by (own := [("k", 5)]) (N := N_orders_by_falls) (sc := defScope s_orders_by_falls) (by decide +kernel)) (fun _ _ _ _ _ => (pg_name (i := 5) sc_orders_by_falls.nd rfl (.inl rfl))) (fun _ _ _ _ _ => pts_nil) (fun _ _ _ _ _ => (pe_op op_add (pe_op op_mul (pe_op op_add (pv 5) pe_int) (pe_ix (show IxR _ (rIxL K) from ix_list) (pv 3) (pv 5) (fun _ _ => rfl))) (pe_op op_mul (pe_op op_sub (pv 2) (pv 5)) (pe_ix (show IxR _ (rIxL K) from ix_list) (pv 4) (pv 5) (fun _ _ => rfl)))))))))
    (pss_one (ps_ret (pe_callTy call_tuple_of (by rfl) T.tuple_ boot_tuple (pa_cons (pv 1) pa_nil))))))), ?_⟩
  refine ⟨_, rfl, m, rfl, m1, m9, (by show 1 ≤ sizeLine; decide), fun F hF => ?_⟩
  refine ⟨_, rfl, m, 1, rfl, rfl, 2, _, rfl, ⟨by decide, by decide, by omega, by omega⟩, ?_⟩
  refine for_it walk_range (fun i σ H' => ∃ r y2 y3 y4 y5, σ = [some (.int m), some (.ref r), y2, y3, y4, y5] ∧ Same H H' ∧ H' r = some (.lst (nV (euTo i)))) ⟨F, none, none, none, none, rfl, same_new1 hF, upd_same⟩ (fun _ _ _ _ _ => trivial) ?_ ?_
  · rintro i x σ H1 H2 hi ⟨r, y2, y3, y4, y5, rfl, sm, er⟩ ⟨rfl, ex⟩
    have ek : x = V.int ((i + 2 : Nat) : Int) := by rw [ex]; exact congrArg V.int (by omega)
    subst ek
    have hi8 : i < 8 := by
      have : i < ((m : Int) + 1 - 2).toNat := hi
      omega
    have lr := euTo_length i
    refine ⟨_, rfl, (by show 1 ≤ sizeLine; decide), fun z0 hz0 => ?_⟩
    have s3 : Same H2 (upd H2 z0 (.lst [.int 0])) := same_new1 hz0
    have e3 : (upd H2 z0 (.lst [.int 0])) z0 = some (.lst (nV [0])) := upd_same
    generalize upd H2 z0 (.lst [.int 0]) = H3 at s3 e3
    refine ⟨r, z0, _, _, rfl, rfl, s3 _ _ er, e3, ?_, fun lo hlo => ?_⟩
    · rw [nV_length, nV_length]
      exact Nat.le_of_lt (small1000 (by rw [lr]; show i + 1 + 1 ≤ 1000; omega))
    rw [← nV_append]
    have s4 : Same H3 (upd H3 lo (.lst (nV (euTo i ++ [0])))) := same_new1 hlo
    have e4 : (upd H3 lo (.lst (nV (euTo i ++ [0])))) lo = some (.lst (nV (euTo i ++ [0]))) := upd_same
    generalize upd H3 lo (.lst (nV (euTo i ++ [0]))) = H4 at s4 e4
    refine ⟨(by show 1 ≤ sizeLine; decide), fun z1 hz1 => ?_⟩
    have s5 : Same H4 (upd H4 z1 (.lst [.int 0])) := same_new1 hz1
    have e5 : (upd H4 z1 (.lst [.int 0])) z1 = some (.lst (nV [0])) := upd_same
    generalize upd H4 z1 (.lst [.int 0]) = H5 at s5 e5
    refine ⟨_, rfl, z1, r, _, _, rfl, rfl, e5, s5 _ _ (s4 _ _ (s3 _ _ er)), ?_, fun sh hsh => ?_⟩
    · rw [nV_length, nV_length]
      exact Nat.le_of_lt (small1000 (by rw [lr]; show 1 + (i + 1) ≤ 1000; omega))
    rw [← nV_append]
    have s6 : Same H5 (upd H5 sh (.lst (nV ([0] ++ euTo i)))) := same_new1 hsh
    have e6 : (upd H5 sh (.lst (nV ([0] ++ euTo i)))) sh = some (.lst (nV ([0] ++ euTo i))) := upd_same
    generalize upd H5 sh (.lst (nV ([0] ++ euTo i))) = H6 at s6 e6
    refine ⟨(by show 2 ≤ sizeLine; decide), fun tt htt => ?_⟩
    have s7 : Same H6 (upd H6 tt (.tup [.ref lo, .ref sh])) := same_new1 htt
    have e7 : (upd H6 tt (.tup [.ref lo, .ref sh])) tt = some (.tup [.ref lo, .ref sh]) := upd_same
    generalize upd H6 tt (.tup [.ref lo, .ref sh]) = H7 at s7 e7
    refine ⟨tt, _, rfl, SqT.of e7, rfl, _, [_], rfl, _, [], rfl, rfl, ?_⟩
    have eLo := s7 _ _ (s6 _ _ (s5 _ _ e4))
    have eSh := s7 _ _ e6
    have s27 : Same H2 H7 := (((s3.trans s4).trans s5).trans s6).trans s7
    refine ⟨_, rfl, (i + 2 : Nat), rfl, by omega, by omega, fun D hD => ?_⟩
    rw [show (((i + 2 : Nat) : Int)).toNat = i + 2 by omega]
    refine lc_it walk_range (fun j H' => Same H7 H' ∧ H' D = some (.lst (nV ((List.range j).map (eu (euTo i) (i + 2)))))) ⟨same_new1 hD, upd_same⟩ (fun _ _ _ _ => trivial) ?_ ?_
    · rintro k x A1 A2 hk ⟨sa, eD⟩ ⟨rfl, ex⟩
      have ek : x = V.int ((k : Nat) : Int) := by rw [ex]; exact congrArg V.int (by omega)
      subst ek
      have g1 : (nV (euTo i ++ [0]))[k]? = some (.int (((euTo i ++ [0]).getD k 0 : Nat) : Int)) := nV_ix (get_D (by rw [List.length_append, lr]; exact hk))
      have g2 : (nV ([0] ++ euTo i))[k]? = some (.int (((0 :: euTo i).getD k 0 : Nat) : Int)) := nV_ix (get_D (by show k < (0 :: euTo i).length; rw [List.length_cons, lr]; exact hk))
      refine ⟨rfl, _, rfl, k, 1, rfl, rfl, _, rfl, _, rfl, lo, _, _, _, rfl, rfl, SqL.of (sa _ _ eLo), atI_nat g1, _, _, rfl, rfl, .inl ⟨by omega, by omega⟩, _, rfl, _, rfl, (i + 2 : Nat), k, rfl, rfl, _, rfl, _, rfl, sh, _, _, _, rfl, rfl, SqL.of (sa _ _ eSh), atI_nat g2, _, _, rfl, rfl, .inl ⟨by omega, by omega⟩, _, _, rfl, rfl, ?_⟩
      refine ⟨_, eD, ?_, fun b o z => ?_, ?_⟩
      · rw [nV_length, List.length_map, List.length_range]
        exact small1000 (by omega)
      · rw [upd_ne (fun e => by rw [e, hD] at z; cases z)]
        exact sa _ _ z
      · rw [upd_same, List.range_succ, List.map_append, nV_append]
        show some (HO.lst (_ ++ [V.int (((k : Int) + 1) * (((euTo i ++ [0]).getD k 0 : Nat) : Int) + (((i + 2 : Nat) : Int) - (k : Int)) * (((0 :: euTo i).getD k 0 : Nat) : Int))])) = some (HO.lst (_ ++ [V.int ((eu (euTo i) (i + 2) k : Nat) : Int)]))
        have e : ((k : Int) + 1) * (((euTo i ++ [0]).getD k 0 : Nat) : Int) + (((i + 2 : Nat) : Int) - (k : Int)) * (((0 :: euTo i).getD k 0 : Nat) : Int) = ((eu (euTo i) (i + 2) k : Nat) : Int) := by
          unfold eu
          exact eu_cast _ _ _ _ hk
        rw [e]
    · rintro A1 ⟨sa, eD⟩
      exact ⟨D, _, _, _, _, rfl, (sm.trans s27).trans sa, eD⟩
  · rintro σ H1 ⟨r, y2, y3, y4, y5, rfl, sm, er⟩
    rw [show ((m : Int) + 1 - 2).toNat = m - 1 by omega] at er
    exact ⟨_, rfl, r, _, rfl, .inl ⟨SqL.of er, fun t ht => q _ t (sm.trans (same_new1 ht)) upd_same⟩⟩
end
end Ck

namespace Ck
open PySem PySem.Spec PyProof.Rows L2
open PySem.W (AlikeAll minD)
theorem asc_unique : ∀ (a b : List Int), a.Pairwise (· < ·) → b.Pairwise (· < ·) → (∀ k, k ∈ a ↔ k ∈ b) → a = b
  | [], [], _, _, _ => rfl
  | [], y :: b, _, _, h => by have := (h y).mpr List.mem_cons_self; cases this
  | x :: a, [], _, _, h => by have := (h x).mp List.mem_cons_self; cases this
  | x :: a, y :: b, ha, hb, h => by
    have ha' := List.pairwise_cons.mp ha
    have hb' := List.pairwise_cons.mp hb
    have e : x = y := by
      have h1 := (h x).mp List.mem_cons_self
      have h2 := (h y).mpr List.mem_cons_self
      rcases List.mem_cons.mp h1 with h1 | h1
      · exact h1
      · rcases List.mem_cons.mp h2 with h2 | h2
        · exact h2.symm
        · have a1 := hb'.1 x h1
          have a2 := ha'.1 y h2
          omega
    subst e
    rw [asc_unique a b ha'.2 hb'.2 fun k => ?_]
    constructor
    · intro hk
      rcases List.mem_cons.mp ((h k).mp (List.mem_cons_of_mem _ hk)) with z | z
      · have := ha'.1 k hk
        omega
      · exact z
    · intro hk
      rcases List.mem_cons.mp ((h k).mpr (List.mem_cons_of_mem _ hk)) with z | z
      · have := hb'.1 k hk
        omega
      · exact z
def castL (fs : List Nat) : List Int := fs.map fun k : Nat => (k : Int)
theorem nV_castL (fs : List Nat) : nV fs = (castL fs).map V.int := nV_ints fs
section
variable {P : Program} {w : World} {K : PySem.W.Frag} {mg : Str → Option Value} {base : Heap}
theorem snocEx {H : Hp} {O : Addr} {zs : List Int} {i : Nat} (n : Int) (lz : zs.length = i) : ∃ zs' : List Int, zs'.length = i + 1 ∧ upd H O (.lst (zs.map V.int ++ [V.int n])) O = some (.lst (zs'.map V.int)) :=
  ⟨zs ++ [n], by rw [List.length_append, lz]; rfl, by rw [upd_same, List.map_append]; rfl⟩
/-! ### row_of_falls -/
def spRowOf : Sp := fun vs H Q _ => ∃ (a : Addr) (m : Nat) (fs : List Nat), vs = [.int m, .ref a] ∧ H a = some (.tup (nV fs)) ∧ 1 ≤ m ∧ m ≤ 9 ∧ fs.Pairwise (· < ·) ∧ (∀ x ∈ fs, x + 2 ≤ m) ∧ fs.length ≤ 20 ∧ ∀ H' (r : Addr) (xs : List Int), Same H H' → H' r = some (.tup (xs.map V.int)) → Q (.ref r) H'
abbrev N_row_of_falls : List Str := ["many", "falls", "x", "odd", "k"]
theorem sc_row_of_falls : FnScope N_row_of_falls ["many", "falls"] (defScope s_row_of_falls) := ⟨rfl, rfl, rfl, by decide +kernel, rfl, by decide +kernel, by decide +kernel⟩
theorem ok_row_of_falls (T : Tx mg) (hF : Has K mg "row_of_falls" s_row_of_falls) (G_is_in : Cl P w K mg base 1 "is_in" spIsIn) : Cl P w K mg base 2 "row_of_falls" spRowOf := by
  refine cl_of hF sc_row_of_falls (fun vs H Q E h => by obtain ⟨a, m, fs, rfl, _⟩ := h; rfl) (fun _ _ _ _ _ _ us hl => match us, hl with | [_, _], _ => rfl) fun f cdv A outer s H vs Q E hr h => ?_
  obtain ⟨a, m, fs, rfl, hA, m1, m9, asc, hfs, f20, q⟩ := h
  refine ⟨_, (pss_cons (ps_if (pt_not (pt_val (pc hr G_is_in (by first | decide | omega) (by rfl) (pa_cons (pv 0) (pa_cons pe_int (pa_cons (pe_gi T.mr) pa_nil)))))) pss_never pss_nil)
    (pss_cons (ps_if (PW.pt (pw_or (pt_not (pt_val (pe_callB call_isi (by rfl) T.isi_ boot_isinstance (pa_cons (pv 1) (pa_cons (pe_bltn (v := .ty "tuple") (by rfl) T.tuple_ boot_tuple rfl) pa_nil))))) (pw_or1 (pt_cmpR (op_neD hr.units) (pe_lc (own := [("x", 2)]) (g := (gName 2)) rfl sc_row_of_falls.nd (pi_tup (pv 1)) (blkOk_by (own := [("x", 2)]) (N := N_row_of_falls) (sc := defScope s_row_of_falls) (by decide +kernel)) (fun _ _ _ _ _ => (pg_name (i := 2) sc_row_of_falls.nd rfl (.inl rfl))) (fun _ _ _ _ _ => (pts_one (pt_not (pt_val (pc hr G_is_in (by first | decide | omega) (by rfl) (pa_cons (pv 2) (pa_cons pe_int (pa_cons (pe_op op_sub (pv 0) pe_int) pa_nil)))))))) (fun _ _ _ _ _ => (pv 2))) (pe_lst pa_nil) (nomark _))))) pss_never pss_nil)
    (pss_cons (ps_if (pt_cmpR (op_neD hr.units) (pe_callTy call_list_of (by rfl) T.list_ boot_list (pa_cons (pv 1) pa_nil)) (pe_callB (cr_sortedSet rfl) (by rfl) T.sorted_ boot_sorted (pa_cons (pe_callTy (cr_setT rfl) (by rfl) T.set_ boot_set (pa_cons (pv 1) pa_nil)) pa_nil)) (nomark _)) pss_never pss_nil)
    (pss_cons (ps_set (i := 3) sc_row_of_falls.nd rfl (.inr rfl) (pe_op op_cat (pe_lc (own := [("k", 4)]) (g := (gName 4)) (tt := tYes) rfl sc_row_of_falls.nd (pi_range1 (by rfl) T.range_ (pa_cons (pe_op op_sub (pv 0) pe_int) pa_nil)) (blkOk_by (own := [("k", 4)]) (N := N_row_of_falls) (sc := defScope s_row_of_falls) (by decide +kernel)) (fun _ _ _ _ _ => (pg_name (i := 4) sc_row_of_falls.nd rfl (.inl rfl))) (fun _ _ _ _ _ => pts_nil) (fun _ _ _ _ _ => (pe_callTy call_int1 (by rfl) T.int_ boot_int (pa_cons (pe_cmpR (show OpR _ _ (rIn K true) from op_notIn_seq) (pv 4) (pv 1) (by rfl)) pa_nil)))) (pe_lst (pa_cons pe_int pa_nil))))
    (pss_one (ps_ret (pe_callTy call_tuple_of (by rfl) T.tuple_ boot_tuple (pa_cons (pe_op op_cat (pe_lst (pa_cons (pe_ix ix_list (pv 3) pe_int (fun _ _ => rfl)) pa_nil)) (pe_lc (own := [("k", 4)]) (g := (gName 4)) (tt := tYes) rfl sc_row_of_falls.nd (pi_range2 (by rfl) T.range_ (pa_cons pe_int (pa_cons (pv 0) pa_nil))) (blkOk_by (own := [("k", 4)]) (N := N_row_of_falls) (sc := defScope s_row_of_falls) (by decide +kernel)) (fun _ _ _ _ _ => (pg_name (i := 4) sc_row_of_falls.nd rfl (.inl rfl))) (fun _ _ _ _ _ => pts_nil) (fun _ _ _ _ _ => (pe_op op_mod (pe_op op_add (pe_ix (show IxR _ (rIxL K) from ix_list) (pv 3) (pv 4) (fun _ _ => rfl)) (pe_ix (show IxR _ (rIxL K) from ix_list) (pv 3) (pe_op op_sub (pv 4) pe_int) (fun _ _ => rfl))) pe_int)))) pa_nil)))))))), ?_⟩
  have en : inB (m : Int) 1 40 = true := by
    unfold inB
    rw [decide_eq_true (by omega), decide_eq_true (by omega)]
    rfl
  refine ⟨_, rfl, m, 1, 40, rfl, true, congrArg V.bl en, iteF ?_⟩
  refine ⟨_, rfl, .ref a, .ty "tuple", _, _, true, rfl, .ty _, .base (.tup hA), kit_tt, true, rfl, iteF ?_⟩
  refine ⟨_, rfl, a, rfl, ⟨_, SqT.of hA⟩, fun D hD => ?_⟩
  refine lc_it (walk_tup (K := K) (a := a) (xs := nV fs)) (fun i H' => Same H H' ∧ H' D = some (.lst [])) ⟨same_new1 hD, upd_same⟩ (fun i H' _ ⟨s, _⟩ => SqT.of (s _ _ hA)) ?_ ?_
  · rintro i x H1 H2 hi ⟨sm, eD⟩ ⟨rfl, ex⟩
    rw [nV_length] at hi
    have gk : fs[i]? = some fs[i] := List.getElem?_eq_getElem hi
    have hk := hfs _ (List.getElem_mem hi)
    generalize fs[i] = k at gk hk
    obtain rfl := Option.some.inj ((nV_ix gk).symm.trans ex)
    have en2 : inB (k : Int) 0 ((m : Int) - 2) = true := by
      unfold inB
      rw [decide_eq_true (by omega), decide_eq_true (by omega)]
      rfl
    exact ⟨rfl, _, rfl, _, rfl, m, 2, rfl, rfl, k, 0, (m : Int) - 2, rfl, true, congrArg V.bl en2, sm, eD⟩
  rintro H1 ⟨s1, eD⟩
  refine ⟨(by show 0 ≤ sizeLine; decide), fun D2 hD2 => ?_⟩
  have s2 : Same H (upd H1 D2 (.lst [])) := same_new s1 hD2
  have eD' := same_new1 (o := .lst []) hD2 _ _ eD
  refine ⟨_, _, Dp.lst (SqL.of eD') .nil, Dp.lst (SqL.of upd_same) .nil, shaped_list [], shaped_list [], false, congrArg V.bl (by rw [show PyData.eqv (.list []) (.list []) = decide (([] : List Int) = []) from eqv_list [] []]; rfl), iteF ?_⟩
  generalize upd H1 D2 (.lst []) = H2 at s2 eD'
  have hA2 := s2 _ _ hA
  refine ⟨_, rfl, a, _, rfl, .inr (SqT.of hA2), fun L hL => ?_⟩
  have s3 : Same H (upd H2 L (.lst (nV fs))) := same_new s2 hL
  have eL : (upd H2 L (.lst (nV fs))) L = some (.lst ((castL fs).map V.int)) := by rw [upd_same, nV_castL]
  generalize upd H2 L (.lst (nV fs)) = H3 at s3 eL
  have hA3 : H3 a = some (.tup ((castL fs).map V.int)) := by rw [← nV_castL]; exact s3 _ _ hA
  have cl : (castL fs).length = fs.length := List.length_map _
  refine ⟨_, rfl, a, castL fs, rfl, SqT.of hA3, by omega, fun S c hc hS => ?_⟩
  have hw : (cxOf CX0 P w K mg base N_row_of_falls ("row_of_falls" : Str) (defScope s_row_of_falls) f cdv A outer s H E).nox.w = w := rfl
  rw [hw]
  have s4 : Same H3 (upd H3 S (SetO w S (fun j => decide (j ∈ castL fs)) c)) := same_new1 hS
  refine ⟨S, _, c, rfl, upd_same, by omega, fun ns p asc2 mem hlen hp => ?_⟩
  have asc1 : (castL fs).Pairwise (· < ·) := by
    unfold castL
    rw [List.pairwise_map]
    exact asc.imp fun {a b} h => by omega
  have e : ns = castL fs := asc_unique ns _ asc2 asc1 fun k => by rw [mem, decide_eq_true_eq]
  subst e
  have s5 : Same H3 (upd (upd H3 S (SetO w S (fun j => decide (j ∈ castL fs)) c)) p (.lst ((castL fs).map V.int))) := same_new s4 hp
  have e5 : (upd (upd H3 S (SetO w S (fun j => decide (j ∈ castL fs)) c)) p (.lst ((castL fs).map V.int))) p = some (.lst ((castL fs).map V.int)) := upd_same
  generalize upd (upd H3 S (SetO w S (fun j => decide (j ∈ castL fs)) c)) p (.lst ((castL fs).map V.int)) = H5 at s5 e5
  refine ⟨_, _, Dp.lst (SqL.of (s5 _ _ eL)) (dpAll_ints _), Dp.lst (SqL.of e5) (dpAll_ints _), shaped_list _, shaped_list _, false, congrArg V.bl (by rw [show PyData.eqv (.list ((castL fs).map PyData.int)) (.list ((castL fs).map PyData.int)) = decide (castL fs = castL fs) from eqv_list _ _, decide_eq_true rfl]; rfl), iteF ?_⟩
  have s05 := s3.trans s5
  have hA5 := s05 _ _ hA
  -- odd
  refine ⟨_, rfl, _, 1, rfl, rfl, (m : Int) - 1, rfl, by omega, by omega, fun O hO => ?_⟩
  rw [show ((m : Int) - 1).toNat = m - 1 by omega]
  refine lc_it walk_range (fun i H' => Same H5 H' ∧ ∃ zs : List Int, zs.length = i ∧ H' O = some (.lst (zs.map V.int))) ⟨same_new1 hO, [], rfl, upd_same⟩ (fun _ _ _ _ => trivial) ?_ ?_
  · rintro i x H6 H7 hi ⟨sm, zs, lz, eO⟩ ⟨rfl, ex⟩
    have ek : x = V.int ((i : Nat) : Int) := by rw [ex]; exact congrArg V.int (by omega)
    subst ek
    refine ⟨rfl, _, rfl, _, rfl, a, _, rfl, .inr (SqT.of (sm _ _ hA5)), rfl, flat_nV fs, .inr ⟨_, rfl, ?_⟩⟩
    refine ⟨_, eO, ?_, fun b o z => ?_, snocEx _ lz⟩
    · rw [List.length_map]
      exact small1000 (by omega)
    · rw [upd_ne (fun e => by rw [e, hO] at z; cases z)]
      exact sm _ _ z
  rintro H6 ⟨s6, zs, lz, eO⟩
  refine ⟨(by show 1 ≤ sizeLine; decide), fun o1 ho1 => ?_⟩
  refine ⟨O, o1, _, _, rfl, rfl, same_new1 ho1 _ _ eO, upd_same, ?_, fun OD hOD => ?_⟩
  · rw [List.length_map]
    exact Nat.le_of_lt (small1000 (by show zs.length + 1 ≤ 1000; omega))
  have s7 : Same H5 (upd (upd H6 o1 (.lst [.int 1])) OD (.lst (zs.map V.int ++ [.int 1]))) := same_new (same_new s6 ho1) hOD
  have e7 : (upd (upd H6 o1 (.lst [.int 1])) OD (.lst (zs.map V.int ++ [.int 1]))) OD = some (.lst ((zs ++ [1]).map V.int)) := by rw [upd_same, List.map_append]; rfl
  generalize upd (upd H6 o1 (.lst [.int 1])) OD (.lst (zs.map V.int ++ [.int 1])) = H7 at s7 e7
  have lO : (zs ++ [1]).length = m := by rw [List.length_append, lz]; show m - 1 + 1 = m; omega
  have gO : ∀ k, k < m → ∃ n : Int, ((zs ++ [1]).map V.int)[k]? = some (.int n) := fun k hk => ⟨(zs ++ [1])[k]'(by omega), by rw [List.getElem?_map, List.getElem?_eq_getElem (by omega)]; rfl⟩
  generalize zs ++ [1] = od at e7 lO gO
  obtain ⟨n0, g0⟩ := gO 0 (by omega)
  refine ⟨_, rfl, OD, _, 0, _, rfl, rfl, SqL.of e7, atI_nat g0, (by show 1 ≤ sizeLine; decide), fun w0 hw0 => ?_⟩
  have s8 : Same H7 (upd H7 w0 (.lst [.int n0])) := same_new1 hw0
  have e8 : (upd H7 w0 (.lst [.int n0])) w0 = some (.lst [.int n0]) := upd_same
  generalize upd H7 w0 (.lst [.int n0]) = H8 at s8 e8
  have eO8 := s8 _ _ e7
  refine ⟨_, rfl, 1, m, rfl, ⟨by decide, by decide, by omega, by omega⟩, fun R hR => ?_⟩
  rw [show ((m : Int) - 1).toNat = m - 1 by omega]
  refine lc_it walk_range (fun i H' => Same H8 H' ∧ ∃ zs : List Int, zs.length = i ∧ H' R = some (.lst (zs.map V.int))) ⟨same_new1 hR, [], rfl, upd_same⟩ (fun _ _ _ _ => trivial) ?_ ?_
  · rintro i x H9 H10 hi ⟨sm, zs, lz, eR⟩ ⟨rfl, ex⟩
    have ek : x = V.int ((i + 1 : Nat) : Int) := by rw [ex]; exact congrArg V.int (by omega)
    subst ek
    obtain ⟨na, ga⟩ := gO (i + 1) (by omega)
    obtain ⟨nb, gb⟩ := gO i (by omega)
    refine ⟨rfl, _, rfl, _, rfl, OD, _, _, _, rfl, rfl, SqL.of (sm _ _ eO8), atI_nat ga, _, rfl, _, rfl, _, 1, rfl, rfl, OD, _, _, .int nb, rfl, rfl, SqL.of (sm _ _ eO8), ?_, _, _, rfl, rfl, _, 2, rfl, rfl, (by show (0 : Int) < 2; decide), ?_⟩
    · show atI _ (((i + 1 : Nat) : Int) - 1) = _
      rw [show (((i + 1 : Nat) : Int) - 1) = (i : Int) by omega]
      exact atI_nat gb
    refine ⟨_, eR, ?_, fun b o z => ?_, snocEx _ lz⟩
    · rw [List.length_map]
      exact small1000 (by omega)
    · rw [upd_ne (fun e => by rw [e, hR] at z; cases z)]
      exact sm _ _ z
  rintro H9 ⟨s9, zs, lz, eR⟩
  refine ⟨w0, R, _, _, rfl, rfl, s9 _ _ e8, eR, ?_, fun Y hY => ?_⟩
  · rw [List.length_map]
    exact Nat.le_of_lt (small1000 (by show 1 + zs.length ≤ 1000; omega))
  refine ⟨Y, _, rfl, .inl ⟨SqL.of upd_same, fun t ht => ?_⟩⟩
  refine q _ t (n0 :: zs) ((((s05.trans s7).trans s8).trans s9).trans (same_new (same_new1 hY) ht)) ?_
  rw [upd_same]
  rfl
end
end Ck

namespace Ck
open PySem PySem.Spec PyProof.Rows L2
open PySem.W (AlikeAll minD)
def nAlt (f m : Nat) : Nat := (m - f) / 2
def alt (f m : Nat) : List Nat := (List.range (nAlt f m)).map fun k => f + k * 2
def gr (m : Nat) (f : Nat) : Nat := cntOf (alt f m) m
theorem alt_rg : ∀ m : Nat, m < 10 → 1 ≤ m → ∀ f : Nat, f < 2 → Builtin.Range.small (f : Int) ((m : Int) - 1) 2 = true ∧ Builtin.Range.rangeSize (f : Int) ((m : Int) - 1) 2 = nAlt f m := by decide +kernel
theorem alt_ok : ∀ m : Nat, m < 10 → 1 ≤ m → ∀ f : Nat, f < 2 → (alt f m).Pairwise (· < ·) ∧ (∀ x ∈ alt f m, x + 2 ≤ m) ∧ (alt f m).length ≤ 20 := by decide +kernel
theorem alt_nV (f m : Nat) : ((List.range (nAlt f m)).map fun k => V.int ((f : Int) + (k : Nat) * (2 : Int))) = nV (alt f m) := by
  unfold alt nV
  rw [List.map_map]
  apply List.map_congr_left
  intro k _
  exact congrArg V.int (by show (f : Int) + (k : Int) * 2 = ((f + k * 2 : Nat) : Int); omega)
section
variable {P : Program} {w : World} {K : PySem.W.Frag} {mg : Str → Option Value} {base : Heap}
def GrAt (m : Nat) (H : Hp) (p : Addr) (y : Nat × List Int) : Prop := ∃ t, H p = some (.tup [.int (-((gr m y.1 : Nat) : Int)), .ref t]) ∧ H t = some (.tup (y.2.map V.int))
theorem GrAt.same {m : Nat} {H H' : Hp} (s : Same H H') (p : Addr) (y : Nat × List Int) (h : GrAt m H p y) : GrAt m H' p y := by
  obtain ⟨t, h1, h2⟩ := h
  exact ⟨t, s _ _ h1, s _ _ h2⟩
/-! ### greatest_row -/
def spGreatest : Sp := fun vs H Q _ => ∃ m : Nat, vs = [.int m] ∧ 1 ≤ m ∧ m ≤ 9 ∧ ∀ H' (r : Addr) (v : V), Same H H' → H' r = some (.tup [.int ((max (gr m 0) (gr m 1) : Nat) : Int), v]) → Q (.ref r) H'
abbrev N_greatest_row : List Str := ["many", "some", "first", "falls", "best"]
theorem sc_greatest_row : FnScope N_greatest_row ["many"] (defScope s_greatest_row) := ⟨rfl, rfl, rfl, by decide +kernel, rfl, by decide +kernel, by decide +kernel⟩
theorem ok_greatest_row (T : Tx mg) (hF : Has K mg "greatest_row" s_greatest_row) (G_is_in : Cl P w K mg base 1 "is_in" spIsIn) (G_count_of : Cl P w K mg base 2 "count_of" spCountOf) (G_row_of_falls : Cl P w K mg base 2 "row_of_falls" spRowOf) : Cl P w K mg base 3 "greatest_row" spGreatest := by
  refine cl_of hF sc_greatest_row (fun vs H Q E h => by obtain ⟨m, rfl, _⟩ := h; rfl) (fun _ _ _ _ _ _ us hl => match us, hl with | [_], _ => rfl) fun f cdv A outer s H vs Q E hr h => ?_
  obtain ⟨m, rfl, m1, m9, q⟩ := h
  refine ⟨_, (pss_cons (ps_if (pt_not (pt_val (pc hr G_is_in (by first | decide | omega) (by rfl) (pa_cons (pv 0) (pa_cons pe_int (pa_cons (pe_gi T.mr) pa_nil)))))) pss_never pss_nil)
    (pss_cons (ps_set (i := 1) sc_greatest_row.nd rfl (.inl rfl) (pe_lst pa_nil))
    (pss_cons (ps_for PassesOwn.never rfl (pi_tup (pe_tup (pa_cons pe_int (pa_cons pe_int pa_nil)))) (pg_name (i := 2) sc_greatest_row.nd rfl (.inl rfl)) (pss_cons (ps_set (i := 3) sc_greatest_row.nd rfl (.inl rfl) (pe_tupRg3 rfl (by rfl) T.tuple_ (by rfl) T.range_ (pa_cons (pv 2) (pa_cons (pe_op op_sub (pv 0) pe_int) (pa_cons pe_int pa_nil)))))
    (pss_one (ps_expr (pe_bm PySem.F.plainAttrs_list PySem.F.slot_list_append PySem.F.type_list_append mt_append (pv 1) (pa_cons (pe_tup (pa_cons (pe_un un_neg (pc hr G_count_of (by first | decide | omega) (by rfl) (pa_cons (pv 3) (pa_cons (pv 0) pa_nil)))) (pa_cons (pc hr G_row_of_falls (by first | decide | omega) (by rfl) (pa_cons (pv 0) (pa_cons (pv 3) pa_nil))) pa_nil))) pa_nil))))))
    (pss_cons (ps_set (i := 4) sc_greatest_row.nd rfl (.inl rfl) (pe_callB (cr_minD rfl hr.units) (by rfl) T.min_ boot_min (pa_cons (pv 1) pa_nil)))
    (pss_one (ps_ret (pe_tup (pa_cons (pe_un un_neg (pe_ix ix_tup (pv 4) pe_int (fun _ _ => rfl))) (pa_cons (pe_ix ix_tup (pv 4) pe_int (fun _ _ => rfl)) pa_nil))))))))), ?_⟩
  have en : inB (m : Int) 1 40 = true := by
    unfold inB
    rw [decide_eq_true (by omega), decide_eq_true (by omega)]
    rfl
  refine ⟨_, rfl, m, 1, 40, rfl, true, congrArg V.bl en, iteF ?_⟩
  refine ⟨(by show 0 ≤ sizeLine; decide), fun L hL => ?_⟩
  have s1 : Same H (upd H L (.lst [])) := same_new1 hL
  have eL : (upd H L (.lst [])) L = some (.lst []) := upd_same
  generalize upd H L (.lst []) = H1 at s1 eL
  refine ⟨(by show 2 ≤ sizeLine; decide), fun p hp => ?_⟩
  have s2 : Same H (upd H1 p (.tup [.int 0, .int 1])) := same_new s1 hp
  have ep : (upd H1 p (.tup [.int 0, .int 1])) p = some (.tup [.int 0, .int 1]) := upd_same
  have eL2 := same_new1 (o := .tup [.int 0, .int 1]) hp _ _ eL
  have npL : p ≠ L := fun z => by rw [z, eL] at hp; cases hp
  generalize upd H1 p (.tup [.int 0, .int 1]) = H2 at s2 ep eL2
  refine ⟨p, rfl, ⟨_, SqT.of ep⟩, ?_⟩
  refine for_it (walk_tup (K := K) (a := p) (xs := [.int 0, .int 1])) (fun i σ H' => ∃ y2 y3 y4 us ys, σ = [some (.int m), some (.ref L), y2, y3, y4] ∧ Same H H' ∧ H' p = some (.tup [.int 0, .int 1]) ∧ H' L = some (.lst (us.map V.ref)) ∧ Paired (GrAt m H') us ys ∧ ys.map (·.1) = List.range i)
    ⟨none, none, none, [], [], rfl, s2, ep, eL2, .nil, rfl⟩ (fun i σ H' _ ⟨_, _, _, _, _, _, _, e, _⟩ => SqT.of e) ?_ ?_
  · rintro i x σ H3' H3 hi ⟨y2, y3, y4, us, ys, rfl, sm, ep3, eL3, pu, ry⟩ ⟨rfl, ex⟩
    have hi2 : i < 2 := hi
    have ek : x = V.int ((i : Nat) : Int) := by
      rcases (by omega : i = 0 ∨ i = 1) with rfl | rfl
      · exact (Option.some.inj ex).symm
      · exact (Option.some.inj ex).symm
    subst ek
    obtain ⟨r1, r2⟩ := alt_rg m (by omega) m1 i hi2
    obtain ⟨a1, a2, a3⟩ := alt_ok m (by omega) m1 i hi2
    refine ⟨_, rfl, _, rfl, m, 1, rfl, rfl, i, (m : Int) - 1, 2, nAlt i m, rfl, ⟨by decide, by decide, r1, r2⟩, ?_, fun F hF => ?_⟩
    · have : nAlt i m ≤ 20 := by
        have e : (alt i m).length = nAlt i m := by unfold alt; rw [List.length_map, List.length_range]
        omega
      exact Nat.le_trans this (by decide)
    rw [alt_nV]
    have s4 : Same H3 (upd H3 F (.tup (nV (alt i m)))) := same_new1 hF
    have eF : (upd H3 F (.tup (nV (alt i m)))) F = some (.tup (nV (alt i m))) := upd_same
    generalize upd H3 F (.tup (nV (alt i m))) = H4 at s4 eF
    refine ⟨_, rfl, .inl ⟨rfl, _, SqL.of (s4 _ _ eL3)⟩, _, rfl, _, rfl, F, m, alt i m, rfl, .inr eF, m1, by omega, fun H5 s5 => ⟨_, rfl, ?_⟩⟩
    refine ⟨_, rfl, _, rfl, F, m, alt i m, rfl, s5 _ _ eF, m1, m9, a1, a2, a3, fun H6 t xs s6 et => ?_⟩
    refine ⟨(by show 2 ≤ sizeLine; decide), fun u hu => ?_⟩
    have s7 : Same H6 (upd H6 u (.tup [.int (-((gr m i : Nat) : Int)), .ref t])) := same_new1 hu
    have eu : (upd H6 u (.tup [.int (-((gr m i : Nat) : Int)), .ref t])) u = some (.tup [.int (-((gr m i : Nat) : Int)), .ref t]) := upd_same
    have key : ∀ H7, Same H6 H7 → H7 u = some (.tup [.int (-((gr m i : Nat) : Int)), .ref t]) → ∃ l xs y, V.ref L = .ref l ∧ [V.ref u] = [y] ∧ H7 l = some (.lst xs) ∧ xs.length < sizeLine ∧
        ∃ y2 y3 y4' us ys, [some (V.int m), some (.ref L), some (.int (i : Nat)), some (.ref F), y4] = [some (V.int m), some (.ref L), y2, y3, y4'] ∧ Same H (upd H7 l (.lst (xs ++ [y]))) ∧ (upd H7 l (.lst (xs ++ [y]))) p = some (.tup [.int 0, .int 1]) ∧ (upd H7 l (.lst (xs ++ [y]))) L = some (.lst (us.map V.ref)) ∧ Paired (GrAt m (upd H7 l (.lst (xs ++ [y])))) us ys ∧ ys.map (·.1) = List.range (i + 1) := by
      intro H7 s7 eu
      have s37 : Same H3 H7 := ((s4.trans s5).trans s6).trans s7
      have eL7 := s37 _ _ eL3
      have tn : ∀ {x : Addr} {ys : List V}, H7 x = some (.tup ys) → (upd H7 L (.lst (us.map V.ref ++ [V.ref u]))) x = some (.tup ys) := fun {x ys} z => by
        rw [upd_ne (fun e => by rw [e, eL7] at z; cases z)]
        exact z
      refine ⟨L, _, _, rfl, rfl, eL7, ?_, _, _, _, us ++ [u], ys ++ [(i, xs)], rfl, fun b o z => ?_, ?_, ?_, ?_, ?_⟩
      · have h1 := Paired.length pu
        have h2 := congrArg List.length ry
        rw [List.length_map, List.length_range] at h2
        rw [List.length_map]
        exact small1000 (by omega)
      · rw [upd_ne (fun e => by rw [e, hL] at z; cases z)]
        exact s37 _ _ (sm _ _ z)
      · exact tn (s37 _ _ ep3)
      · rw [upd_same, List.map_append]; rfl
      · exact Paired.snoc (F := GrAt m _) (x := u) (y := (i, xs)) ⟨t, tn eu, tn (s7 _ _ et)⟩ (Paired.imp (fun x y ⟨t', q1, q2⟩ => ⟨t', tn (s37 _ _ q1), tn (s37 _ _ q2)⟩) pu)
      · rw [List.map_append, ry, List.range_succ]
        rfl
    exact key _ s7 eu
  · rintro σ H3 ⟨y2, y3, y4, us, ys, rfl, sm, ep3, eL3, pu, ry⟩
    have dp := dpAll_pD (K := K) (c := fun y : Nat × List Int => -((gr m y.1 : Nat) : Int)) (g := fun y => y.2) pu
    obtain ⟨y0, y1, rfl⟩ : ∃ y0 y1, ys = [y0, y1] := by
      have h2 : ys.length = 2 := by
        have := congrArg List.length ry
        rw [List.length_map] at this
        exact this
      match ys, h2 with
      | [y0, y1], _ => exact ⟨y0, y1, rfl⟩
    · have h0 : y0.1 = 0 := by
        have : [y0.1, y1.1] = [0, 1] := ry
        injection this
      have h1 : y1.1 = 1 := by
        have : [y0.1, y1.1] = [0, 1] := ry
        injection this with _ this
        injection this
      refine ⟨_, rfl, L, _, _, _, rfl, SqL.of eL3, dp, alikeAll_pD _ _ [y0, y1], Nat.le_trans (depth_pD _ _ [y0, y1]) (by decide), fun i x ex em => ?_⟩
      obtain ⟨y, ey, my⟩ := min_pD (fun y : Nat × List Int => -((gr m y.1 : Nat) : Int)) (fun y => y.2) [y1] y0
      have em' := em.trans ey
      have hi : i < 2 := by
        have a := (List.getElem?_eq_some_iff.mp ex).1
        rw [List.length_map] at a
        have := Paired.length pu
        simp at this
        omega
      have gl : [y0, y1][i]? = some [y0, y1][i] := List.getElem?_eq_getElem hi
      have ml := List.getElem_mem (l := [y0, y1]) hi
      obtain ⟨u, et, t, hu, ht⟩ := Paired.getR pu gl
      have ed : -((gr m ([y0, y1][i]).1 : Nat) : Int) = -((gr m y.1 : Nat) : Int) := by
        have e2 : ([y0, y1].map (pD (fun y : Nat × List Int => -((gr m y.1 : Nat) : Int)) (fun y => y.2))).getD i .none = pD (fun y : Nat × List Int => -((gr m y.1 : Nat) : Int)) (fun y => y.2) [y0, y1][i] := by
          rw [List.getD_eq_getElem?_getD, List.getElem?_map, gl]
          rfl
        exact pD_inj (c := fun y : Nat × List Int => -((gr m y.1 : Nat) : Int)) (g := fun y => y.2) (e2.symm.trans em')
      generalize [y0, y1][i] = z at hu ht ml ed
      obtain rfl := Option.some.inj ((map_ref_ix et).symm.trans ex)
      have a0 := my y0 (by simp)
      have a1 := my y1 (by simp)
      have mx : gr m z.1 = max (gr m 0) (gr m 1) := by
        simp only [h0, h1] at a0 a1
        rcases List.mem_cons.mp ml with e | ml
        · rw [e, h0] at ed ⊢
          omega
        · rw [List.mem_singleton.mp ml, h1] at ed ⊢
          omega
      refine ⟨_, rfl, u, _, 0, _, rfl, rfl, SqT.of hu, rfl, _, rfl, _, rfl, u, _, 1, _, rfl, rfl, SqT.of hu, rfl, (by show 2 ≤ sizeLine; decide), fun zz hz => ?_⟩
      refine q _ zz (.ref t) (sm.trans (same_new1 hz)) ?_
      rw [upd_same]
      show some (HO.tup [V.int (- -((gr m z.1 : Nat) : Int)), V.ref t]) = _
      rw [Int.neg_neg, mx]
end
end Ck

namespace Ck
open PySem PySem.Spec PyProof.Rows L2
def rowVal (m : Nat) (row : List Nat) : Nat := if row.sum % 2 = 1 then cntOf (fallsIn row) m else 0
theorem pow9 {n : Nat} (h : n ≤ 9) : 2 ^ n ≤ 512 := Nat.le_trans (Nat.pow_le_pow_right (by decide) h) (by decide)
section
variable {P : Program} {w : World} {K : PySem.W.Frag} {mg : Str → Option Value} {base : Heap}
theorem lay_nV {H : Hp} {a : Addr} {n : Nat} {l : List Nat} (h : LayAt H a l) (hm : l ∈ fl n) : H a = some (.tup (nV l)) := by
  have h' : H a = some (.tup (l.map cellV)) := h
  rw [h', lay_ints (fl_le1 n l hm), nV_ints]
/-! ### rows_by_count -/
def spRowsBy : Sp := fun vs H Q _ => ∃ m : Nat, vs = [.int m] ∧ 1 ≤ m ∧ m ≤ 9 ∧ ∀ H' (r : Addr), Same H H' → TabAt H' r ((fl m).map (rowVal m)) → Q (.ref r) H'
abbrev N_rows_by_count : List Str := ["many", "found", "rows", "k", "row", "coin", "count"]
theorem sc_rows_by_count : FnScope N_rows_by_count ["many"] (defScope s_rows_by_count) := ⟨rfl, rfl, rfl, by decide +kernel, rfl, by decide +kernel, by decide +kernel⟩
theorem ok_rows_by_count (T : Tx mg) (hF : Has K mg "rows_by_count" s_rows_by_count) (G_is_in : Cl P w K mg base 1 "is_in" spIsIn) (G_falls_in : Cl P w K mg base 1 "falls_in" spFallsIn) (G_count_of : Cl P w K mg base 2 "count_of" spCountOf) : Cl P w K mg base 3 "rows_by_count" spRowsBy := by
  refine cl_of hF sc_rows_by_count (fun vs H Q E h => by obtain ⟨m, rfl, _⟩ := h; rfl) (fun _ _ _ _ _ _ us hl => match us, hl with | [_], _ => rfl) fun f cdv A outer s H vs Q E hr h => ?_
  obtain ⟨n, rfl, m1, n9, q⟩ := h
  refine ⟨_, (pss_cons (ps_if (pt_not (pt_val (pc hr G_is_in (by first | decide | omega) (by rfl) (pa_cons (pv 0) (pa_cons pe_int (pa_cons (pe_gi T.ml) pa_nil)))))) pss_never pss_nil)
    (pss_cons (ps_asg (pe_tup (pa_cons pe_dnewK (pa_cons (pe_lst (pa_cons (pe_tup pa_nil) pa_nil)) pa_nil))) (pg_tup rfl (pgs_cons (pg_name (i := 1) sc_rows_by_count.nd rfl (.inr rfl)) (pgs_cons (pg_name (i := 2) sc_rows_by_count.nd rfl (.inl rfl)) pgs_nil))))
    (pss_cons (ps_for PassesOwn.never rfl (pi_range1 (by rfl) T.range_ (pa_cons (pv 0) pa_nil)) (pg_name (i := 3) sc_rows_by_count.nd rfl (.inl rfl)) (pss_one (ps_setLc2 (i := 2) (own := [("row", 4), ("coin", 5)]) (vs1 := [5]) (g := (gName 4)) (g1 := (gName 5)) (tt := tYes) (tt1 := tYes) rfl sc_rows_by_count.nd rfl rfl (sw_true rfl rfl rfl (by decide +kernel)) (pi_list (pv 2)) (blkOk_by (own := [("row", 4), ("coin", 5)]) (N := N_rows_by_count) (sc := defScope s_rows_by_count) (by decide +kernel)) (by decide) (fun _ _ _ _ _ => (pg_name (i := 4) sc_rows_by_count.nd rfl (.inl rfl))) (fun _ _ _ _ _ => pts_nil) (fun _ _ _ _ _ => (show PI _ _ _ (iTup K _) from pi_tup (pe_tup (pa_cons pe_int (pa_cons pe_int pa_nil))))) (fun _ _ _ _ _ => (pg_name (i := 5) sc_rows_by_count.nd rfl (.inl rfl))) (fun _ _ _ _ _ => pts_nil) (fun _ _ _ _ _ => (pe_op (show OpR _ _ (rCatA K) from op_catA) (pv 4) (pe_tup (pa_cons (pv 5) pa_nil)))))))
    (pss_cons (ps_for PassesOwn.never rfl (pi_list (pv 2)) (pg_name (i := 4) sc_rows_by_count.nd rfl (.inl rfl)) (pss_cons (ps_set (i := 6) sc_rows_by_count.nd rfl (.inl rfl) (pe_ifExp (pt_cmpR op_eq (pe_op op_mod (pe_callB (cr_sumT rfl) (by rfl) T.sum_ boot_sum (pa_cons (pv 4) pa_nil)) pe_int) pe_int (nomark _)) (pc hr G_count_of (by first | decide | omega) (by rfl) (pa_cons (pc hr G_falls_in (by first | decide | omega) (by rfl) (pa_cons (pv 4) pa_nil)) (pa_cons (pv 0) pa_nil))) pe_int))
    (pss_one (ps_dput (hu_of hr) (pv 1) (pv 6) (pe_op op_add (pe_dget2 (hu_of hr) (pv 1) (pv 6) pe_int ⟨rfl, rfl, rfl, rfl⟩) pe_int) rfl))))
    (pss_one (ps_ret (pe_callTy call_tuple_of (by rfl) T.tuple_ boot_tuple (pa_cons (pe_lc (own := [("count", 6)]) (g := (gName 6)) (tt := tYes) rfl sc_rows_by_count.nd (pi_list (pe_callB (cr_sortedKI rfl hr.units) (by rfl) T.sorted_ boot_sorted (pa_cons (pe_keys (pv 1)) pa_nil))) (blkOk_by (own := [("count", 6)]) (N := N_rows_by_count) (sc := defScope s_rows_by_count) (by decide +kernel)) (fun _ _ _ _ _ => (pg_name (i := 6) sc_rows_by_count.nd rfl (.inl rfl))) (fun _ _ _ _ _ => pts_nil) (fun _ _ _ _ _ => (pe_tup (pa_cons (pv 6) (pa_cons (pe_dget (hu_of hr) (pv 1) (pv 6) (fun _ _ => rfl)) pa_nil))))) pa_nil)))))))), ?_⟩
  have en : inB (n : Int) 1 9 = true := by
    unfold inB
    rw [decide_eq_true (by omega), decide_eq_true (by omega)]
    rfl
  refine ⟨_, rfl, n, 1, 9, rfl, true, congrArg V.bl en, iteF ?_⟩
  refine fun kd hkd => ?_
  have s1 : Same H (upd H kd (.dK [])) := same_new1 hkd
  have ek : (upd H kd (.dK [])) kd = some (.dK []) := upd_same
  generalize upd H kd (.dK []) = G1 at s1 ek
  refine ⟨(by show 0 ≤ sizeLine; decide), fun t0 h0 => ?_⟩
  have s2 : Same G1 (upd G1 t0 (.tup [])) := same_new1 h0
  have e2 : (upd G1 t0 (.tup [])) t0 = some (.tup []) := upd_same
  generalize upd G1 t0 (.tup []) = G2 at s2 e2
  refine ⟨(by show 1 ≤ sizeLine; decide), fun F0 hF0 => ?_⟩
  have s3 : Same G2 (upd G2 F0 (.lst [.ref t0])) := same_new1 hF0
  have e3 : (upd G2 F0 (.lst [.ref t0])) F0 = some (.lst [.ref t0]) := upd_same
  generalize upd G2 F0 (.lst [.ref t0]) = G3 at s3 e3
  refine ⟨(by show 2 ≤ sizeLine; decide), fun tt htt => ?_⟩
  have s4 : Same G3 (upd G3 tt (.tup [.ref kd, .ref F0])) := same_new1 htt
  have e4 : (upd G3 tt (.tup [.ref kd, .ref F0])) tt = some (.tup [.ref kd, .ref F0]) := upd_same
  generalize upd G3 tt (.tup [.ref kd, .ref F0]) = G4 at s4 e4
  refine ⟨tt, _, rfl, SqT.of e4, rfl, _, [_], rfl, _, [], rfl, rfl, ?_⟩
  have s14 : Same G1 G4 := (s2.trans s3).trans s4
  refine ⟨_, rfl, n, rfl, by omega, by omega, ?_⟩
  refine for_it walk_range (fun i σ H' => ∃ r ts y1 y2 y3 y4, σ = [some (.int n), some (.ref kd), some (.ref r), y1, y2, y3, y4] ∧ Same G1 H' ∧ G1 r = none ∧ H' r = some (.lst (ts.map V.ref)) ∧ Paired (LayAt H') ts (fl i))
    ⟨F0, [t0], none, none, none, none, rfl, s14, s2.free hF0, s4 _ _ e3, .cons (s4 _ _ (s3 _ _ e2)) .nil⟩ (fun i σ H' _ _ => trivial) ?_ ?_
  · rintro i x σ H1 H2 hi ⟨r, ts, y1, y2, y3, y4, rfl, sm, hr0, er, pt⟩ ⟨rfl, ex⟩
    have lt : ts.length = (fl i).length := Paired.length pt
    refine ⟨_, rfl, r, rfl, ⟨_, SqL.of er⟩, fun D hD => ?_⟩
    have nrD : r ≠ D := ne_of_none er hD
    refine in_it (walk_list (K := K) (a := r) (xs := ts.map V.ref)) (fun j H' => ∃ us, Same H2 H' ∧ H' D = some (.lst (us.map V.ref)) ∧ Paired (LayAt H') us (ext ((fl i).take j)))
      ⟨[], same_new1 hD, upd_same, .nil⟩ (fun j H' _ ⟨_, s, _⟩ => SqL.of (s _ _ er)) ?_ ?_
    · rintro j x H3 H4 hj ⟨us, s3, eD, pu⟩ ⟨rfl, ex⟩
      rw [List.length_map] at hj
      have gl : (fl i)[j]? = some (fl i)[j] := List.getElem?_eq_getElem (by omega)
      obtain ⟨t, et, at_⟩ := Paired.getR pt gl
      generalize (fl i)[j] = l at gl at_
      obtain rfl := Option.some.inj ((map_ref_ix et).symm.trans ex)
      have at4 : LayAt H4 t l := s3 _ _ at_
      have l512 : (fl i).length ≤ 512 := by rw [fl_length]; exact pow9 (by omega)
      have i6 : i < 9 := by omega
      have ll : l.length = i := fl_len (List.mem_of_getElem? gl)
      have tkl : (ext ((fl i).take j)).length ≤ 1024 := by rw [ext_length, List.length_take]; omega
      refine ⟨rfl, (by show 2 ≤ sizeLine; decide), fun p hp => ?_⟩
      have s4 : Same H4 (upd H4 p (.tup [.int 0, .int 1])) := same_new1 hp
      have up : (upd H4 p (.tup [.int 0, .int 1])) p = some (.tup [.int 0, .int 1]) := upd_same
      have nDp : D ≠ p := ne_of_none eD hp
      generalize upd H4 p (.tup [.int 0, .int 1]) = H4a at s4 up
      refine ⟨p, rfl, ⟨_, SqT.of up⟩, ?_⟩
      refine in_it (walk_tup (K := K) (a := p) (xs := [.int 0, .int 1])) (fun c H' => ∃ us, Same H2 H' ∧ H' p = some (.tup [.int 0, .int 1]) ∧ LayAt H' t l ∧ H' D = some (.lst (us.map V.ref)) ∧ Paired (LayAt H') us (ext ((fl i).take j) ++ [l ++ [0], l ++ [1]].take c))
        ⟨us, s3.trans s4, up, s4 _ _ at4, s4 _ _ eD, ?_⟩ (fun c H' _ ⟨_, _, s, _⟩ => SqT.of s) ?_ ?_
      · rw [List.take_zero, List.append_nil]
        exact Paired.imp (fun t l q => s4 _ _ q) pu
      · rintro c x H5 H6 hc ⟨vs, s5, e5, at5, eD5, pu5⟩ ⟨rfl, ex⟩
        have hc2 : c < 2 := hc
        have ec : x = .int (c : Int) ∧ [l ++ [0], l ++ [1]][c]? = some (l ++ [c]) := by
          rcases (by omega : c = 0 ∨ c = 1) with rfl | rfl
          · exact ⟨(Option.some.inj ex).symm, rfl⟩
          · exact ⟨(Option.some.inj ex).symm, rfl⟩
        obtain ⟨rfl, ec⟩ := ec
        have cc : cellV c = .int (c : Int) := cellV_ne (by omega)
        have fin : ∀ (y : Addr) (H7 : Hp), Same H6 H7 → LayAt H7 y (l ++ [c]) → ∃ acc, H7 D = some (.lst acc) ∧ acc.length < sizeLine ∧ ∃ us, Same H2 (upd H7 D (.lst (acc ++ [V.ref y]))) ∧ (upd H7 D (.lst (acc ++ [V.ref y]))) p = some (.tup [.int 0, .int 1]) ∧ LayAt (upd H7 D (.lst (acc ++ [V.ref y]))) t l ∧
            (upd H7 D (.lst (acc ++ [V.ref y]))) D = some (.lst (us.map V.ref)) ∧ Paired (LayAt (upd H7 D (.lst (acc ++ [V.ref y])))) us (ext ((fl i).take j) ++ [l ++ [0], l ++ [1]].take (c + 1)) := by
          intro y H7 s7 ly
          have eD7 := s7 _ _ eD5
          have lay : ∀ (a : Addr) (m : List Nat), LayAt H7 a m → LayAt (upd H7 D (.lst (vs.map V.ref ++ [V.ref y]))) a m := fun a m q => by
            show upd _ D _ a = _
            rw [upd_ne (fun e => by rw [e] at q; exact absurd (eD7.symm.trans q) (by simp))]
            exact q
          refine ⟨_, eD7, ?_, vs ++ [y], fun b o z => ?_, ?_, lay _ _ (s7 _ _ at5), ?_, ?_⟩
          · have := Paired.length pu5
            rw [List.length_append, List.length_take] at this
            rw [List.length_map]
            exact small1Ml (by simp at this; omega)
          · rw [upd_ne (fun e => by rw [e, hD] at z; cases z)]
            exact s7 _ _ (s5 _ _ z)
          · rw [upd_ne (Ne.symm nDp)]
            exact s7 _ _ e5
          · rw [upd_same, List.map_append]; rfl
          · rw [List.take_add_one, ec, ← List.append_assoc]
            exact Paired.snoc (lay _ _ ly) (Paired.imp (fun a m q => lay _ _ (s7 _ _ q)) pu5)
        refine ⟨rfl, _, rfl, _, rfl, (by show 1 ≤ sizeLine; decide), fun u hu => ?_⟩
        have s6 : Same H6 (upd H6 u (.tup [.int (c : Int)])) := same_new1 hu
        refine ⟨t, u, _, _, rfl, rfl, SqT.of (s6 _ _ at5), SqT.of upd_same, ?_, fun e => ?_, fun _ e => (nomatch e), fun _ _ v hv => ?_⟩
        · rw [List.length_map, ll]
          exact Nat.le_of_lt (small1000 (by show i + 1 ≤ 1000; omega))
        · have e0 : l = [] := List.map_eq_nil_iff.mp e
          refine fin u _ s6 ?_
          show upd _ u _ u = _
          rw [upd_same, e0]
          show _ = some (HO.tup [cellV c])
          rw [cc]
        · refine fin v _ (same_new s6 hv) ?_
          show upd _ v _ v = _
          rw [upd_same, List.map_append]
          show _ = some (HO.tup (l.map cellV ++ [cellV c]))
          rw [cc]
      · rintro H5 ⟨vs, s5, e5, at5, eD5, pu5⟩
        refine ⟨vs, s5, eD5, ?_⟩
        rw [ext_take _ j l gl]
        exact pu5
    · rintro H3 ⟨us, s3, eD, pu⟩
      refine ⟨D, us, _, _, _, _, rfl, sm.trans s3, sm.free hD, eD, ?_⟩
      rw [List.length_map, lt, List.take_of_length_le (Nat.le_refl _)] at pu
      exact pu
  rintro σ H3 ⟨r, ts, y1, y2, y3, y4, rfl, sm, hr0, er, pt⟩
  rw [show ((n : Int)).toNat = n by omega] at pt
  have lp : ts.length = (fl n).length := Paired.length pt
  have l512 : (fl n).length ≤ 512 := by rw [fl_length]; exact pow9 n9
  have kr : r ≠ kd := fun z => by rw [z, ek] at hr0; cases hr0
  refine ⟨_, rfl, r, rfl, ⟨_, SqL.of er⟩, ?_⟩
  refine for_it (walk_list (K := K) (a := r) (xs := ts.map V.ref)) (fun i σ H' => ∃ y1 y2 y3 y4 kvs ks, σ = [some (.int n), some (.ref kd), some (.ref r), y1, y2, y3, y4] ∧ SX kd H3 H' ∧ H' kd = some (.dK kvs) ∧ Tal kvs ks (((fl n).take i).map (rowVal n)))
    ⟨y1, y2, y3, y4, [], [], rfl, SX.of (Same.refl _), sm _ _ ek, Tal.nil⟩ (fun i σ H' _ ⟨_, _, _, _, _, _, _, s, _⟩ => SqL.of (s _ _ kr er)) ?_ ?_
  · rintro i x σ H4 H5 hi ⟨y1, y2, y3, y4, kvs, ks, rfl, sx, e, t⟩ ⟨rfl, ex⟩
    rw [List.length_map] at hi
    have gl : (fl n)[i]? = some (fl n)[i] := List.getElem?_eq_getElem (by omega)
    have ml := List.getElem_mem (show i < (fl n).length by omega)
    obtain ⟨p, et, hp⟩ := Paired.getR pt gl
    generalize (fl n)[i] = l at gl hp ml
    obtain rfl := Option.some.inj ((map_ref_ix et).symm.trans ex)
    have hpn := lay_nV hp ml
    have pk : p ≠ kd := fun z => by rw [z, sm _ _ ek] at hpn; cases hpn
    have hp5 := sx _ _ pk hpn
    have ll := fl_len ml
    have fits : kvs.length ≤ 1000 := by
      have := t.le
      rw [List.length_map, List.length_take] at this
      omega
    have hp5' := hp5
    rw [nV_ints] at hp5'
    refine ⟨_, rfl, p, _, rfl, SqT.of hp5', ?_⟩
    rw [sum_nat_cast]
    refine ⟨_, 2, rfl, rfl, (by show (0 : Int) < 2; decide), rfl, _, rfl, ite2 (fun c => ?_) (fun c => ?_)⟩
    · have c1 : l.sum % 2 = 1 := by
        have := of_decide_eq_true c
        injection this with this
        omega
      have ev : cntOf (fallsIn l) n = rowVal n l := by unfold rowVal; rw [if_pos c1]
      refine ⟨_, rfl, p, l, rfl, hp5, by omega, by omega, fun H6 rf s6 nf ef => ?_⟩
      refine ⟨_, rfl, rf, n, fallsIn l, rfl, .inl ef, m1, by omega, fun H7 s7 => ?_⟩
      have s57 := s6.trans s7
      have ek7 : H7 kd = some (.dK kvs) := s57 _ _ e
      obtain ⟨ks', t'⟩ := t.put (rowVal n l) _ rfl
      rw [ev]
      refine ⟨_, rfl, kd, rfl, .inl ⟨_, .inl ek7⟩, _, rfl, _, DGet.k (k := nk (rowVal n l)) ek7, _, 1, t.get _, rfl, _, rfl, _, rfl, kd, _, rfl, DPut.k (k := nk (rowVal n l)) ek7 (small1000 fits), ?_⟩
      refine ⟨_, _, _, _, _, ks', rfl, fun b o nb z => ?_, upd_same, ?_⟩
      · rw [upd_ne nb]
        exact s57 _ _ (sx _ _ nb z)
      · rw [List.take_add_one, gl, List.map_append]
        exact t'
    · have c1 : ¬ l.sum % 2 = 1 := fun z => c (decide_eq_true (congrArg V.int (by omega)))
      have ev : 0 = rowVal n l := by unfold rowVal; rw [if_neg c1]
      obtain ⟨ks', t'⟩ := t.put (rowVal n l) _ rfl
      rw [← ev] at t'
      have tg := t.get (rowVal n l)
      rw [← ev] at tg
      refine ⟨_, rfl, kd, rfl, .inl ⟨_, .inl e⟩, _, rfl, _, DGet.k (k := nk 0) e, _, 1, tg, rfl, _, rfl, _, rfl, kd, _, rfl, DPut.k (k := nk 0) e (small1000 fits), ?_⟩
      refine ⟨_, _, _, _, _, ks', rfl, fun b o nb z => ?_, upd_same, ?_⟩
      · rw [upd_ne nb]
        exact sx _ _ nb z
      · rw [List.take_add_one, gl, List.map_append]
        show Tal _ _ (_ ++ [rowVal n l])
        rw [← ev]
        exact t'
  · rintro σ H4 ⟨y1, y2, y3, y4, kvs, ks, rfl, sx, e, t⟩
    rw [List.length_map, lp, List.take_of_length_le (Nat.le_refl _)] at t
    have sm4 : Same H H4 := fun b o z => sx _ _ (ne_of_none z hkd) (sm _ _ (s1 _ _ z))
    have kl : ks.length ≤ 512 := by
      have h1 : (kvs.map (·.1)).length = (ks.map nk).length := by rw [t.keys]
      have h2 := t.le
      rw [List.length_map, List.length_map] at h1
      rw [List.length_map] at h2
      omega
    generalize hcs : (fl n).map (rowVal n) = cs at t q
    refine ⟨_, rfl, kd, rfl, .inl ⟨_, e⟩, fun v hv => ?_⟩
    have nkv : kd ≠ v := ne_of_none e hv
    have sv : Same H4 (upd H4 v (keysO v kd)) := same_new1 hv
    refine ⟨v, kd, kvs, ks.map (fun k : Nat => (k : Int)), rfl, upd_same, sv _ _ e, ?_, fun ks' p hp hs hpn => ?_⟩
    · rw [t.keys, List.map_map]
      rfl
    obtain ⟨qs, rfl, asc, pm⟩ := sort_nat hp hs t.nd
    have sp : Same H4 (upd (upd H4 v (keysO v kd)) p (.lst ((qs.map fun k : Nat => (k : Int)).map V.int))) := same_new sv hpn
    have ep : (upd (upd H4 v (keysO v kd)) p (.lst ((qs.map fun k : Nat => (k : Int)).map V.int))) p = some (.lst (nV qs)) := by rw [upd_same, nV_ints]
    generalize upd (upd H4 v (keysO v kd)) p (.lst ((qs.map fun k : Nat => (k : Int)).map V.int)) = H5 at sp ep
    have ql : qs.length ≤ 512 := by rw [pm.length_eq]; exact kl
    have e5 := sp _ _ e
    refine ⟨p, rfl, ⟨_, SqL.of ep⟩, fun D hD => ?_⟩
    have nkD : kd ≠ D := ne_of_none e5 hD
    refine lc_it (walk_list (K := K) (a := p) (xs := nV qs)) (fun i H' => Same H5 H' ∧ ∃ us, H' D = some (.lst (us.map V.ref)) ∧ Paired (RowAt H' cs) us (qs.take i)) ⟨same_new1 hD, [], upd_same, .nil⟩ (fun i H' _ ⟨s, _⟩ => SqL.of (s _ _ ep)) ?_ ?_
    · rintro i x H6' H6 hi ⟨s6, us, eD, pu⟩ ⟨rfl, ex⟩
      rw [nV_length] at hi
      have gk : qs[i]? = some qs[i] := List.getElem?_eq_getElem hi
      have hk : qs[i] ∈ cs := (t.mem _).mp (pm.mem_iff.mp (List.getElem_mem hi))
      generalize qs[i] = k at gk hk
      obtain rfl := Option.some.inj ((nV_ix gk).symm.trans ex)
      have vk : valV kvs (nk k) = some (.int (cs.count k : Nat)) := by rw [t.val, if_pos hk]
      refine ⟨rfl, _, rfl, _, rfl, _, rfl, kd, _, rfl, by rw [← vk]; exact DGet.k (k := nk k) (s6 _ _ e5), (by show 2 ≤ sizeLine; decide), fun u hu => ?_⟩
      have s7 : Same H6 (upd H6 u (.tup [.int (k : Int), .int (cs.count k : Nat)])) := same_new1 hu
      have eu : (upd H6 u (.tup [.int (k : Int), .int (cs.count k : Nat)])) u = some (.tup [.int (k : Int), .int (cs.count k : Nat)]) := upd_same
      generalize upd H6 u (.tup [.int (k : Int), .int (cs.count k : Nat)]) = H7 at s7 eu
      have eD7 := s7 _ _ eD
      have tn : ∀ {x : Addr} {ys : List V}, H7 x = some (.tup ys) → (upd H7 D (.lst (us.map V.ref ++ [V.ref u]))) x = some (.tup ys) := fun {x ys} z => by
        rw [upd_ne (fun e => by rw [e, eD7] at z; cases z)]
        exact z
      refine ⟨_, eD7, ?_, fun b o z => ?_, us ++ [u], ?_, ?_⟩
      · have := Paired.length pu
        rw [List.length_take] at this
        rw [List.length_map]
        exact small1000 (by omega)
      · rw [upd_ne (fun e => by rw [e, hD] at z; cases z)]
        exact s7 _ _ (s6 _ _ z)
      · rw [upd_same, List.map_append]; rfl
      · rw [List.take_add_one, gk]
        exact Paired.snoc (F := RowAt _ cs) (tn eu) (Paired.imp (fun x m q => tn (s7 _ _ q)) pu)
    · rintro H6 ⟨s6, us, eD, pu⟩
      rw [nV_length, List.take_of_length_le (Nat.le_refl _)] at pu
      refine ⟨D, _, rfl, .inl ⟨SqL.of eD, fun t' ht' => ?_⟩⟩
      have s7 : Same H6 (upd H6 t' (.tup (us.map V.ref))) := same_new1 ht'
      refine q _ t' (((sm4.trans sp).trans s6).trans s7) ⟨us, qs, upd_same, Paired.imp (fun _ _ q => s7 _ _ q) pu, asc, fun k => ?_⟩
      rw [pm.mem_iff, t.mem]
end
end Ck

namespace Ck
/-! ## the plain law's end -/
theorem rows_sum : ∀ m : Nat, m < 10 → 1 ≤ m → ((fl m).map (rowVal m)).sum = fac m := by decide +kernel
theorem rows_max : ∀ m : Nat, m < 10 → 1 ≤ m → (((fl m).map (rowVal m)).all fun c => decide (c ≤ max (gr m 0) (gr m 1))) = true ∧ (((fl m).map (rowVal m)).contains (max (gr m 0) (gr m 1))) = true := by decide +kernel
theorem ord_sum : ∀ m : Nat, m < 10 → 1 ≤ m → (ordF m).sum = fac m := by decide +kernel
theorem rowsF_sum : ∀ m : Nat, m < 10 → 1 ≤ m → (rowsF m).sum = 2 ^ (m - 1) := by decide +kernel
theorem sum_pick (f : Nat → Nat) (c : Nat) : ∀ ks : List Nat, ks.Nodup → c ∈ ks → (ks.map fun k => if c = k then f k else 0).sum = f c
  | [], _, h => nomatch h
  | k :: ks, nd, h => by
    have nd' := List.nodup_cons.mp nd
    rw [List.map_cons, List.sum_cons]
    by_cases e : c = k
    · rw [if_pos e]
      have z : (ks.map fun k => if c = k then f k else 0) = ks.map fun _ => 0 := by
        apply List.map_congr_left
        intro j hj
        exact if_neg fun q => nd'.1 (by rw [← e, q]; exact hj)
      rw [z, sum_map_zero, e]
      exact Nat.add_zero _
    · rw [if_neg e, sum_pick f c ks nd'.2 ((List.mem_cons.mp h).resolve_left e), Nat.zero_add]
theorem tab_sum (f : Nat → Nat) (ks : List Nat) (nd : ks.Nodup) : ∀ cs : List Nat, (∀ c ∈ cs, c ∈ ks) → (ks.map fun k => f k * cs.count k).sum = (cs.map f).sum
  | [], _ => by
    have e : (ks.map fun k => f k * ([] : List Nat).count k) = ks.map fun _ => 0 := by
      apply List.map_congr_left
      intro k _
      rw [List.count_nil, Nat.mul_zero]
    rw [e, sum_map_zero]
    rfl
  | c :: cs, h => by
    have e : (ks.map fun k => f k * (c :: cs).count k) = ks.map fun k => (if c = k then f k else 0) + f k * cs.count k := by
      apply List.map_congr_left
      intro k _
      rw [List.count_cons]
      by_cases q : c = k
      · rw [if_pos q, if_pos (by rw [beq_iff_eq]; exact q), Nat.mul_add, Nat.mul_one, Nat.add_comm]
      · rw [if_neg q, if_neg (by rw [beq_iff_eq]; exact q), Nat.add_zero, Nat.zero_add]
    rw [e, sum_map_add, sum_pick f c ks nd (h c List.mem_cons_self), tab_sum f ks nd cs fun d hd => h d (List.mem_cons_of_mem _ hd), List.map_cons, List.sum_cons]
theorem asc_nodup {ks : List Nat} (h : ks.Pairwise (· < ·)) : ks.Nodup := h.imp fun {a b} q => Nat.ne_of_lt q
/-- the last of an ascending list -/
theorem asc_last {ks : List Nat} (h : ks.Pairwise (· < ·)) {K : Nat} (e : ks[ks.length - 1]? = some K) : K ∈ ks ∧ ∀ k ∈ ks, k ≤ K := by
  obtain ⟨hl, hk⟩ := List.getElem?_eq_some_iff.mp e
  refine ⟨hk ▸ List.getElem_mem hl, fun k hm => ?_⟩
  obtain ⟨i, hi, rfl⟩ := List.getElem_of_mem hm
  by_cases q : i = ks.length - 1
  · subst q
    exact Nat.le_of_eq hk
  · have := List.pairwise_iff_getElem.mp h i (ks.length - 1) hi hl (by omega)
    rw [hk] at this
    exact Nat.le_of_lt this
theorem marks_rep : ∀ n : Nat, marks (List.replicate n true) = n
  | 0 => rfl
  | n + 1 => by
    have ih := marks_rep n
    unfold marks at ih ⊢
    rw [List.replicate_succ, List.countP_cons, ih]
    rfl
theorem fl_cnt (es : List (Nat × Nat)) (n : Nat) : ((fl n).map (cnt es)).sum = fac n := by
  rw [fl_lays]
  exact sum_cnt es n _ (marks_rep n)
theorem fac_pos : ∀ n : Nat, 0 < fac n
  | 0 => Nat.one_pos
  | n + 1 => Nat.mul_pos (Nat.succ_pos n) (fac_pos n)
theorem sum_le_max (es : List (Nat × Nat)) (M : Nat) : ∀ ls : List (List Nat), (∀ l ∈ ls, cnt es l ≤ M) → (ls.map (cnt es)).sum ≤ M * (posL es ls).length
  | [], _ => Nat.zero_le _
  | l :: ls, h => by
    have ih := sum_le_max es M ls fun m hm => h m (List.mem_cons_of_mem _ hm)
    have hl := h l List.mem_cons_self
    rw [List.map_cons, List.sum_cons]
    unfold posL at ih ⊢
    by_cases c : 0 < cnt es l
    · rw [List.filter_cons_of_pos (by exact decide_eq_true c), List.length_cons, Nat.mul_succ]
      omega
    · rw [List.filter_cons_of_neg (by simp [c])]
      omega
theorem max_pos {es : List (Nat × Nat)} {n : Nat} {l : List Nat} (mx : ∀ m ∈ fl n, cnt es m ≤ cnt es l) : 0 < cnt es l := by
  have h := fac_pos n
  rw [← fl_cnt es n] at h
  obtain ⟨m, hm, hp⟩ := sum_pos (cnt es) (fl n) h
  exact Nat.lt_of_lt_of_le hp (mx m hm)
theorem ones_sum : ∀ l : List Nat, (∀ c ∈ l, c ≤ 1) → ones l = l.sum
  | [], _ => rfl
  | c :: l, h => by
    have a := h c List.mem_cons_self
    rw [ones_cons, ones_sum l fun d hd => h d (List.mem_cons_of_mem _ hd), List.sum_cons]
    rcases (by omega : c = 0 ∨ c = 1) with rfl | rfl
    · show l.sum + 0 = 0 + l.sum
      omega
    · show l.sum + 1 = 1 + l.sum
      omega
theorem live_full : ∀ l : List Nat, (∀ c ∈ l, c ≤ 1) → live l = l.length
  | [], _ => rfl
  | c :: l, h => by
    have a := h c List.mem_cons_self
    have ih := live_full l fun d hd => h d (List.mem_cons_of_mem _ hd)
    unfold live at ih ⊢
    rw [List.countP_cons, ih, List.length_cons, if_pos (by rw [bne_iff_ne]; omega)]
theorem lv_full {l : List Nat} (h : ∀ c ∈ l, c ≤ 1) {k : Nat} (hk : k < l.length) : lv l k = true := by
  unfold lv
  rw [List.getElem?_eq_getElem hk]
  have := h _ (List.getElem_mem hk)
  show (l[k] != 2) = true
  rw [bne_iff_ne]
  omega
theorem heads_length (l : List Nat) : (heads l).length = ones l := by
  unfold heads
  rw [← List.countP_eq_length_filter]
  induction l with
  | nil => rfl
  | cons c l ih =>
    rw [List.length_cons, List.range_succ_eq_map, List.countP_cons, List.countP_map, ones_cons, ← ih]
    have e : ((fun k => (c :: l)[k]? == some 1) ∘ Nat.succ) = fun k => l[k]? == some 1 := by
      funext k
      rfl
    rw [e]
    congr 1
/-- heads, coins and edges of a full laying that can be cleared -/
theorem full_even {n : Nat} {es : List (Nat × Nat)} {l : List Nat} (hes : ∀ e ∈ es, e.1 < e.2 ∧ e.2 < n) (hm : l ∈ fl n) (hp : 0 < cnt es l) : (l.sum + n + es.length) % 2 = 0 ∧ (heads l).length = l.sum := by
  have le1 := fl_le1 n l hm
  have ll := fl_len hm
  have p := parity es (fun e he => Nat.ne_of_lt (hes e he).1) (live l) l rfl (fun c hc => Nat.le_trans (le1 c hc) (by decide)) hp
  have e : edgesIn es l = es.length := by
    unfold edgesIn
    rw [List.countP_eq_length]
    intro e he
    have := hes e he
    rw [lv_full le1 (by omega), lv_full le1 (by omega)]
    rfl
  rw [ones_sum l le1, live_full l le1, ll, e] at p
  exact ⟨p, by rw [heads_length, ones_sum l le1]⟩
theorem hN_pos {es : List (Nat × Nat)} {ls : List (List Nat)} {k : Nat} (h : 0 < hN es ls k) : ∃ l ∈ ls, 0 < cnt es l ∧ l.sum = k := by
  unfold hN at h
  obtain ⟨l, hl, hp⟩ := List.countP_pos_iff.mp h
  rw [Bool.and_eq_true, decide_eq_true_eq, beq_iff_eq] at hp
  exact ⟨l, hl, hp.1, hp.2⟩
end Ck

namespace Ck
open PySem PySem.Spec PyProof.Rows L2
section
variable {P : Program} {w : World} {K : PySem.W.Frag} {mg : Str → Option Value} {base : Heap}
theorem sum_ones : ∀ cs : List Nat, (cs.map fun _ => 1).sum = cs.length
  | [] => rfl
  | c :: cs => by rw [List.map_cons, List.sum_cons, sum_ones cs, List.length_cons, Nat.add_comm]
theorem len_le : ∀ {ks cs : List Nat}, ks.Nodup → (∀ k ∈ ks, k ∈ cs) → ks.length ≤ cs.length
  | [], _, _, _ => Nat.zero_le _
  | k :: ks, cs, nd, h => by
    have nd' := List.nodup_cons.mp nd
    have hk := h k List.mem_cons_self
    have ih := len_le (ks := ks) (cs := cs.erase k) nd'.2 fun j hj => (List.mem_erase_of_ne (fun e : j = k => nd'.1 (by rw [← e]; exact hj))).mpr (h j (List.mem_cons_of_mem _ hj))
    rw [List.length_erase_of_mem hk] at ih
    have := List.length_pos_of_mem hk
    rw [List.length_cons]
    omega
theorem last_ix {α : Type} {xs : List α} {x : α} (h : xs[xs.length - 1]? = some x) : atI xs (-1) = some x := by
  have hl := (List.getElem?_eq_some_iff.mp h).1
  unfold atI ixN
  rw [if_neg (by decide), if_pos (by omega)]
  show xs[((-1 : Int) + (xs.length : Int)).toNat]? = some x
  rw [show ((-1 : Int) + (xs.length : Int)).toNat = xs.length - 1 by omega]
  exact h
def spLaw (K : PySem.W.Frag) : Sp := fun vs H Q _ => ∃ (a : Addr) (ns : List Int), vs = [.ref a] ∧ SqL K H a (ns.map V.int) ∧ ns.length ≤ 1000 ∧ ∀ H', Q (.bl true) H'
abbrev N_law : List Str := ["_law_script", "_law_row", "_law_web_here", "_law_every", "_law_half", "_law_k", "_law_told", "_law_best", "_law_count", "_law_number", "_law_heads", "_law_many", "_law_whole", "_law_size", "_law_rows"]
theorem sc_law : FnScope N_law ["_law_script"] (defScope s_law) := ⟨rfl, rfl, rfl, by decide +kernel, rfl, by decide +kernel, by decide +kernel⟩
theorem fnok_of {x : Str} {st : Stmt} {N ps : List Str} {k : Nat} {sp : Sp} {f : Addr} {fd : FuncData} (F : FnP K x st f fd) (S : FnScope N ps (defScope st)) (len : ∀ vs H Q E, sp vs H Q E → vs.length = ps.length)
    (hbody : ∀ (f : Addr) (cdv : Value) (A : Around) (outer : List Env) (s : Shared) (H : Hp) (vs : List V) (Q : VK) (E : XK), Room k (A.deeper (envOfC x (defScope st) s.heap.objs.size f cdv)) → sp vs H Q E →
      ∃ t, PSs (cxOf CX0 P w K mg base N x (defScope st) f cdv A outer s H E).nox (defBody st) t ∧ t { nx := fun _ H' => Q .non H', rt := Q } (start N vs) H) : FnOk P w K mg base CX0 (k + 1) f fd ps sp :=
  F.ok S len fun cdv A outer s H vs Q E hr h => let ⟨t, a, b⟩ := hbody f cdv A outer s H vs Q E hr h; ⟨t, a.nox, b⟩
theorem ok_law (T : Tx mg) {lf : Addr} {lfd : FuncData} (F : FnP K "law" s_law lf lfd) (F_law_taken : ∀ ns, Cl P w K mg base 1 "_law_taken" (spTake ns K)) (F_law_web : ∀ ns, Cl P w K mg base 3 "_law_web" (spWeb ns K))
    (G_layings_by_count : Cl P w K mg base 11 "layings_by_count" spByCount) (G_most_orders : Cl P w K mg base 12 "most_orders" spMost) (G_order_count : Cl P w K mg base 10 "order_count" spOrder) (G_laying_count : Cl P w K mg base 11 "laying_count" spLayCount)
    (G_heads_by_count : Cl P w K mg base 11 "heads_by_count" spHeadsBy) (G_is_even : Cl P w K mg base 5 "is_even" spEven) (G_rows_by_count : Cl P w K mg base 3 "rows_by_count" spRowsBy) (G_greatest_row : Cl P w K mg base 3 "greatest_row" spGreatest)
    (G_orders_by_falls : Cl P w K mg base 3 "orders_by_falls" spOrdF) (G_rows_by_falls : Cl P w K mg base 3 "rows_by_falls" spRowsF) : FnOk P w K mg base CX0 13 lf lfd ["_law_script"] (spLaw K) := by
  refine fnok_of F sc_law (fun vs H Q E h => by obtain ⟨a, ns, rfl, _⟩ := h; rfl) fun f cdv A outer s H vs Q E hr h => ?_
  obtain ⟨a, ns, rfl, hS, hns, q⟩ := h
  have G_law_taken := F_law_taken ns
  have G_law_web := F_law_web ns
  refine ⟨_, (pss_cons (ps_set (i := 1) sc_law.nd rfl (.inl rfl) (pe_lst (pa_cons (pv 0) (pa_cons pe_int (pa_cons pe_int (pa_cons pe_int pa_nil))))))
    (pss_cons (ps_asg (pe_tup (pa_cons (pc hr G_law_web (by first | decide | omega) (by rfl) (pa_cons (pv 1) (pa_cons pe_int pa_nil))) (pa_cons pe_int (pa_cons pe_int pa_nil)))) (pg_tup rfl (pgs_cons (pg_name (i := 2) sc_law.nd rfl (.inr rfl)) (pgs_cons (pg_name (i := 3) sc_law.nd rfl (.inl rfl)) (pgs_cons (pg_name (i := 4) sc_law.nd rfl (.inl rfl)) pgs_nil)))))
    (pss_cons (ps_for PassesOwn.never rfl (pi_range2 (by rfl) T.range_ (pa_cons pe_int (pa_cons (pe_op op_add (pe_ix ix_tup (pv 2) pe_int (fun _ _ => rfl)) pe_int) pa_nil))) (pg_name (i := 5) sc_law.nd rfl (.inl rfl)) (pss_one (ps_par (i := 3) (j := 4) (by rfl) sc_law.nd rfl rfl (by decide) rfl rfl (pa_cons (pe_op op_mul (pv 3) (pv 5)) (pa_cons (pe_op op_mul (pv 4) pe_int) pa_nil)) (by rfl))))
    (pss_cons (ps_par (i := 6) (j := 7) (by rfl) sc_law.nd rfl rfl (by decide) rfl rfl (pa_cons (pc hr G_layings_by_count (by first | decide | omega) (by rfl) (pa_cons (pv 2) pa_nil)) (pa_cons (pc hr G_most_orders (by first | decide | omega) (by rfl) (pa_cons (pv 2) pa_nil)) pa_nil)) (by rfl))
    (pss_cons (ps_if (pt_cmpR op_ne (pe_callB (cr_sum rfl) (by rfl) T.sum_ boot_sum (pa_cons (pe_lc (own := [("_law_count", 8), ("_law_number", 9)]) (g := (gTup K 2 (gCons (gName 8) (gCons (gName 9) gNil)))) (tt := tYes) rfl sc_law.nd (pi_tup (pv 6)) (blkOk_by (own := [("_law_count", 8), ("_law_number", 9)]) (N := N_law) (sc := defScope s_law) (by decide +kernel)) (fun _ _ _ _ _ => (pg_tup rfl (pgs_cons (pg_name (i := 8) sc_law.nd rfl (.inl rfl)) (pgs_cons (pg_name (i := 9) sc_law.nd rfl (.inl rfl)) pgs_nil)))) (fun _ _ _ _ _ => pts_nil) (fun _ _ _ _ _ => (pe_op op_mul (pv 8) (pv 9)))) pa_nil)) (pv 3) (nomark _)) (pss_one (ps_ret pe_bl)) pss_nil)
    (pss_cons (ps_if (pt_cmpR op_ne (pe_callB (cr_sum rfl) (by rfl) T.sum_ boot_sum (pa_cons (pe_lc (own := [("_law_count", 8), ("_law_number", 9)]) (g := (gTup K 2 (gCons (gName 8) (gCons (gName 9) gNil)))) (tt := tYes) rfl sc_law.nd (pi_tup (pv 6)) (blkOk_by (own := [("_law_count", 8), ("_law_number", 9)]) (N := N_law) (sc := defScope s_law) (by decide +kernel)) (fun _ _ _ _ _ => (pg_tup rfl (pgs_cons (pg_name (i := 8) sc_law.nd rfl (.inl rfl)) (pgs_cons (pg_name (i := 9) sc_law.nd rfl (.inl rfl)) pgs_nil)))) (fun _ _ _ _ _ => pts_nil) (fun _ _ _ _ _ => (pv 9))) pa_nil)) (pe_op op_mul pe_int (pv 4)) (nomark _)) (pss_one (ps_ret pe_bl)) pss_nil)
    (pss_cons (ps_if (PW.pt (pw_or (pt_cmpR op_ne (pe_ix ix_tup (pe_ix ix_tup (pv 6) (pe_un un_neg pe_int) (fun _ _ => rfl)) pe_int (fun _ _ => rfl)) (pe_ix ix_tup (pv 7) pe_int (fun _ _ => rfl)) (nomark _)) (pw_or (pt_cmpR op_ne (pc hr G_order_count (by first | decide | omega) (by rfl) (pa_cons (pv 2) (pa_cons (pe_ix ix_tup (pv 7) pe_int (fun _ _ => rfl)) pa_nil))) (pe_ix ix_tup (pv 7) pe_int (fun _ _ => rfl)) (nomark _)) (pw_or1 (pt_cmpR op_lt (pe_op op_mul (pe_ix ix_tup (pv 7) pe_int (fun _ _ => rfl)) (pc hr G_laying_count (by first | decide | omega) (by rfl) (pa_cons (pv 2) pa_nil))) (pv 3) (nomark _)))))) (pss_one (ps_ret pe_bl)) pss_nil)
    (pss_cons (ps_set (i := 10) sc_law.nd rfl (.inr rfl) (pc hr G_heads_by_count (by first | decide | omega) (by rfl) (pa_cons (pv 2) pa_nil)))
    (pss_cons (ps_if (pt_cmpR op_ne (pe_callB (cr_sumT rfl) (by rfl) T.sum_ boot_sum (pa_cons (pv 10) pa_nil)) (pc hr G_laying_count (by first | decide | omega) (by rfl) (pa_cons (pv 2) pa_nil)) (nomark _)) (pss_one (ps_ret pe_bl)) pss_nil)
    (pss_cons (ps_if (pt_cmpR (op_neD hr.units) (pe_lc (own := [("_law_k", 5)]) (g := (gName 5)) rfl sc_law.nd (pi_range1 (by rfl) T.range_ (pa_cons (pe_op op_add (pe_ix ix_tup (pv 2) pe_int (fun _ _ => rfl)) pe_int) pa_nil)) (blkOk_by (own := [("_law_k", 5)]) (N := N_law) (sc := defScope s_law) (by decide +kernel)) (fun _ _ _ _ _ => (pg_name (i := 5) sc_law.nd rfl (.inl rfl))) (fun _ _ _ _ _ => (pts_one (PW.pt (pw_and (pt_cmpR op_gt (pe_ix (show IxR _ (rIxT K) from ix_tup) (pv 10) (pv 5) (fun _ _ => rfl)) pe_int (nomark _)) (pw_and1 (pt_cmpR op_ne (pe_op op_mod (pe_callTy call_int1 (by rfl) T.int_ boot_int (pa_cons (pe_op op_sub (pe_op op_sub (pv 5) (pe_ix (show IxR _ (rIxT K) from ix_tup) (pv 2) pe_int (fun _ _ => rfl))) (pe_callB (show CallR _ _ (rLenK K) from call_len_seq) (by rfl) T.len_ PySem.boot_len (pa_cons (pe_ix (show IxR _ (rIxT K) from ix_tup) (pv 2) pe_int (fun _ _ => rfl)) pa_nil))) pa_nil)) pe_int) pe_int (nomark _))))))) (fun _ _ _ _ _ => (pv 5))) (pe_lst pa_nil) (nomark _)) (pss_one (ps_ret pe_bl)) pss_nil)
    (pss_cons (ps_if (pt_not (pt_val (pc hr G_is_even (by first | decide | omega) (by rfl) (pa_cons (pv 2) (pa_cons (pe_ix ix_tup (pv 7) pe_int (fun _ _ => rfl)) pa_nil))))) (pss_one (ps_ret pe_bl)) pss_nil)
    (pss_cons (ps_par3 (i := 11) (j := 12) (l := 13) (by rfl) sc_law.nd rfl rfl rfl (by decide) (by decide) (by decide) rfl rfl rfl (pa_cons (pe_op op_add pe_int (pc hr G_law_taken (by first | decide | omega) (by rfl) (pa_cons (pv 1) (pa_cons pe_int pa_nil)))) (pa_cons pe_int (pa_cons pe_int pa_nil))) (by rfl))
    (pss_cons (ps_for PassesOwn.never rfl (pi_range2 (by rfl) T.range_ (pa_cons pe_int (pa_cons (pe_op op_add (pv 11) pe_int) pa_nil))) (pg_name (i := 5) sc_law.nd rfl (.inl rfl)) (pss_one (ps_par (i := 12) (j := 13) (by rfl) sc_law.nd rfl rfl (by decide) rfl rfl (pa_cons (pe_op op_mul (pv 12) (pv 5)) (pa_cons (pe_op op_mul (pv 13) pe_int) pa_nil)) (by rfl))))
    (pss_cons (ps_set (i := 14) sc_law.nd rfl (.inl rfl) (pc hr G_rows_by_count (by first | decide | omega) (by rfl) (pa_cons (pv 11) pa_nil)))
    (pss_cons (ps_if (PW.pt (pw_or (pt_cmpR op_ne (pe_callB (cr_sum rfl) (by rfl) T.sum_ boot_sum (pa_cons (pe_lc (own := [("_law_count", 8), ("_law_number", 9)]) (g := (gTup K 2 (gCons (gName 8) (gCons (gName 9) gNil)))) (tt := tYes) rfl sc_law.nd (pi_tup (pv 14)) (blkOk_by (own := [("_law_count", 8), ("_law_number", 9)]) (N := N_law) (sc := defScope s_law) (by decide +kernel)) (fun _ _ _ _ _ => (pg_tup rfl (pgs_cons (pg_name (i := 8) sc_law.nd rfl (.inl rfl)) (pgs_cons (pg_name (i := 9) sc_law.nd rfl (.inl rfl)) pgs_nil)))) (fun _ _ _ _ _ => pts_nil) (fun _ _ _ _ _ => (pe_op op_mul (pv 8) (pv 9)))) pa_nil)) (pv 12) (nomark _)) (pw_or1 (pt_cmpR op_ne (pe_ix ix_tup (pe_ix ix_tup (pv 14) (pe_un un_neg pe_int) (fun _ _ => rfl)) pe_int (fun _ _ => rfl)) (pe_ix ix_tup (pc hr G_greatest_row (by first | decide | omega) (by rfl) (pa_cons (pv 11) pa_nil)) pe_int (fun _ _ => rfl)) (nomark _))))) (pss_one (ps_ret pe_bl)) pss_nil)
    (pss_one (ps_ret (pe_and (pe_cmpR op_eq (pe_callB (cr_sumT rfl) (by rfl) T.sum_ boot_sum (pa_cons (pc hr G_orders_by_falls (by first | decide | omega) (by rfl) (pa_cons (pv 11) pa_nil)) pa_nil)) (pv 12) (nomark _)) (pe_one (pe_cmpR op_eq (pe_callB (cr_sumT rfl) (by rfl) T.sum_ boot_sum (pa_cons (pc hr G_rows_by_falls (by first | decide | omega) (by rfl) (pa_cons (pv 11) pa_nil)) pa_nil)) (pv 13) (nomark _))))))))))))))))))))), ?_⟩
  refine ⟨_, rfl, (by show 4 ≤ sizeLine; decide), fun ra hra => ?_⟩
  have s1 : Same H (upd H ra (.lst [.ref a, .int 0, .int 8989, .int 0])) := same_new1 hra
  have r1 : RowL K ns a (upd H ra (.lst [.ref a, .int 0, .int 8989, .int 0])) ra := ⟨0, 8989, 0, upd_same, Same.seq s1 hS, by decide, by decide⟩
  generalize upd H ra (.lst [.ref a, .int 0, .int 8989, .int 0]) = H1 at s1 r1
  refine ⟨_, rfl, ra, a, rfl, hns, r1, fun H2 wa n es sx2 r2 nw hW2 gw => ⟨(by show 3 ≤ sizeLine; decide), fun tt htt => ?_⟩⟩
  have s3 : Same H2 (upd H2 tt (.tup [.ref wa, .int 1, .int 1])) := same_new1 htt
  have e3 : (upd H2 tt (.tup [.ref wa, .int 1, .int 1])) tt = some (.tup [.ref wa, .int 1, .int 1]) := upd_same
  generalize upd H2 tt (.tup [.ref wa, .int 1, .int 1]) = H3 at s3 e3
  refine ⟨tt, _, rfl, SqT.of e3, rfl, _, [_, _], rfl, _, [_], rfl, _, [], rfl, rfl, ?_⟩
  have hW := hW2.same s3
  have r3 := r2.same s3
  obtain ⟨wb, wts, h1, h2, h3⟩ := id hW
  have n1 := gw.pos
  have n6 := gw.le
  have lts : wts.length = es.length := Paired.length h3
  refine ⟨_, rfl, wa, _, 0, .int n, rfl, rfl, SqT.of h1, rfl, n, 1, rfl, rfl, 2, _, rfl, ⟨by decide, by decide, by omega, by omega⟩, ?_⟩
  refine for_it walk_range (fun i σ H' => ∃ y5, σ = [some (.ref a), some (.ref ra), some (.ref wa), some (.int ((fac (i + 1) : Nat) : Int)), some (.int ((2 ^ i : Nat) : Int)), y5, none, none, none, none, none, none, none, none, none] ∧ H' = H3) ⟨none, rfl, rfl⟩ (fun _ _ _ _ _ => trivial) ?_ ?_
  · rintro i x σ A1 A2 hi ⟨y5, rfl, rfl⟩ ⟨rfl, ex⟩
    have ek : x = V.int ((i + 2 : Nat) : Int) := by rw [ex]; exact congrArg V.int (by omega)
    subst ek
    refine ⟨_, rfl, _, rfl, _, _, rfl, rfl, .inr ⟨by omega, by omega⟩, _, rfl, _, 2, rfl, rfl, .inr (by omega), _, _, rfl, some (.int ((i + 2 : Nat) : Int)), ?_, rfl⟩
    have e1 : ((fac (i + 1) : Nat) : Int) * ((i + 2 : Nat) : Int) = ((fac (i + 1 + 1) : Nat) : Int) := by
      rw [← Int.natCast_mul]
      show (((fac (i + 1) * (i + 2) : Nat)) : Int) = (((i + 2) * fac (i + 1) : Nat) : Int)
      rw [Nat.mul_comm]
    have e2 : ((2 ^ i : Nat) : Int) * 2 = ((2 ^ (i + 1) : Nat) : Int) := by rw [Nat.pow_succ, Int.natCast_mul]; rfl
    show [some (V.ref a), some (.ref ra), some (.ref wa), some (.int (((fac (i + 1) : Nat) : Int) * ((i + 2 : Nat) : Int))), some (.int (((2 ^ i : Nat) : Int) * 2)), some (.int ((i + 2 : Nat) : Int)), none, none, none, none, none, none, none, none, none] = _
    rw [e1, e2]
  rintro σ A1 ⟨y5, rfl, rfl⟩
  rw [show ((n : Int) + 1 - 2).toNat = n - 1 by omega, show n - 1 + 1 = n by omega]
  refine ⟨_, rfl, wa, n, es, rfl, hW, gw, fun H4 tr s4 tab => ⟨_, rfl, wa, n, es, rfl, hW.same s4, gw, fun H5 br l s5 pa ml mx => ⟨_, _, rfl, ?_⟩⟩⟩
  have hW5 := (hW.same s4).same s5
  have r5 := (r3.same s4).same s5
  have cn : ((fl n).map (cnt es)).length = 2 ^ n := by rw [List.length_map, fl_length]
  have cs0 : ((fl n).map (cnt es)).sum = fac n := fl_cnt es n
  have tab5 := tab.same s5
  have n64 : 2 ^ n ≤ 64 := pow6 n6
  have lpos : 0 < cnt es l := max_pos mx
  have mcs : ∀ c, c ∈ (fl n).map (cnt es) ↔ ∃ m ∈ fl n, cnt es m = c := fun c => List.mem_map
  obtain ⟨ps, ks, ht, pp, asc, mem⟩ := tab5
  generalize hcs : (fl n).map (cnt es) = cs at pp mem cn cs0 mcs
  have lp : ps.length = ks.length := Paired.length pp
  have knd := asc_nodup asc
  have kle : ks.length ≤ 64 := by
    have h : ks.length ≤ cs.length := len_le knd fun k hk => (mem k).mp hk
    omega
  have su1 : (ks.map fun k => k * cs.count k).sum = fac n := by
    rw [tab_sum (fun k => k) ks knd cs fun c hc => (mem c).mpr hc, List.map_id', cs0]
  have su2 : (ks.map fun k => cs.count k).sum = 2 ^ n := by
    have h := tab_sum (fun _ => 1) ks knd cs fun c hc => (mem c).mpr hc
    rw [show (cs.map fun _ => 1).sum = cs.length from sum_ones cs, cn] at h
    rw [← h]
    congr 1
    apply List.map_congr_left
    intro k _
    exact (Nat.one_mul _).symm
  -- the sum of count * number
  refine ⟨_, rfl, tr, rfl, ⟨_, SqT.of ht⟩, fun D hD => ?_⟩
  refine lc_it (walk_tup (K := K) (a := tr) (xs := ps.map V.ref)) (fun i H' => Same H5 H' ∧ H' D = some (.lst (nV ((ks.take i).map fun k => k * cs.count k)))) ⟨same_new1 hD, upd_same⟩ (fun i H' _ ⟨s, _⟩ => SqT.of (s _ _ ht)) ?_ ?_
  · rintro i x B1 B2 hi ⟨sm, eD⟩ ⟨rfl, ex⟩
    rw [List.length_map] at hi
    have gk : ks[i]? = some ks[i] := List.getElem?_eq_getElem (by omega)
    have mk := (mem _).mp (List.getElem_mem (show i < ks.length by omega))
    obtain ⟨p, et, hp⟩ := Paired.getR pp gk
    generalize ks[i] = k at gk hp mk
    obtain rfl := Option.some.inj ((map_ref_ix et).symm.trans ex)
    have hc : cs.count k ≤ 64 := Nat.le_trans List.count_le_length (by omega)
    refine ⟨p, _, rfl, SqT.of (sm _ _ hp), rfl, _, [_], rfl, _, [], rfl, rfl, rfl, ?_⟩
    refine ⟨_, rfl, _, rfl, _, _, rfl, rfl, .inr ⟨by omega, by omega⟩, _, eD, ?_, fun b o z => ?_, ?_⟩
    · rw [nV_length, List.length_map, List.length_take]
      exact small1000 (by omega)
    · rw [upd_ne (fun e => by rw [e, hD] at z; cases z)]
      exact sm _ _ z
    · rw [upd_same, List.take_add_one, gk, List.map_append, nV_append]
      show some (HO.lst (_ ++ [V.int ((k : Int) * ((cs.count k : Nat) : Int))])) = some (HO.lst (_ ++ [V.int ((k * cs.count k : Nat) : Int)]))
      rw [Int.natCast_mul]
  rintro H6 ⟨s6, eD6⟩
  rw [List.length_map, lp, List.take_of_length_le (Nat.le_refl _), nV_ints] at eD6
  refine ⟨D, _, rfl, SqL.of eD6, ?_⟩
  rw [sum_nat_cast, su1]
  refine ⟨_, rfl, rfl, _, rfl, iteNS rfl ?_⟩
  have ht6 := s6 _ _ ht
  -- the sum of the numbers
  refine ⟨_, rfl, tr, rfl, ⟨_, SqT.of ht6⟩, fun D' hD' => ?_⟩
  refine lc_it (walk_tup (K := K) (a := tr) (xs := ps.map V.ref)) (fun i H' => Same H6 H' ∧ H' D' = some (.lst (nV ((ks.take i).map fun k => cs.count k)))) ⟨same_new1 hD', upd_same⟩ (fun i H' _ ⟨s, _⟩ => SqT.of (s _ _ ht6)) ?_ ?_
  · rintro i x B1 B2 hi ⟨sm, eD⟩ ⟨rfl, ex⟩
    rw [List.length_map] at hi
    have gk : ks[i]? = some ks[i] := List.getElem?_eq_getElem (by omega)
    obtain ⟨p, et, hp⟩ := Paired.getR pp gk
    generalize ks[i] = k at gk hp
    obtain rfl := Option.some.inj ((map_ref_ix et).symm.trans ex)
    refine ⟨p, _, rfl, SqT.of (sm _ _ (s6 _ _ hp)), rfl, _, [_], rfl, _, [], rfl, rfl, rfl, ?_⟩
    refine ⟨_, rfl, _, eD, ?_, fun b o z => ?_, ?_⟩
    · rw [nV_length, List.length_map, List.length_take]
      exact small1000 (by omega)
    · rw [upd_ne (fun e => by rw [e, hD'] at z; cases z)]
      exact sm _ _ z
    · rw [upd_same, List.take_add_one, gk, List.map_append, nV_append]
      rfl
  rintro H7 ⟨s7, eD7⟩
  rw [List.length_map, lp, List.take_of_length_le (Nat.le_refl _), nV_ints] at eD7
  refine ⟨D', _, rfl, SqL.of eD7, ?_⟩
  rw [sum_nat_cast, su2]
  have e2n : V.int ((2 ^ n : Nat) : Int) = V.int (2 * ((2 ^ (n - 1) : Nat) : Int)) := by
    have : 2 ^ n = 2 * 2 ^ (n - 1) := by
      have h : 2 ^ (n - 1 + 1) = 2 ^ (n - 1) * 2 := by rw [Nat.pow_succ]
      rw [show n - 1 + 1 = n by omega] at h
      omega
    rw [this, Int.natCast_mul]
    rfl
  refine ⟨_, rfl, 2, _, rfl, rfl, .inl (by omega), rfl, _, rfl, iteNS e2n ?_⟩
  -- the last count is the greatest
  have s57 := s6.trans s7
  have ht7 := s57 _ _ ht
  have k0 : 0 < ks.length := by
    have : cnt es l ∈ cs := (mcs _).mpr ⟨l, ml, rfl⟩
    exact List.length_pos_of_mem ((mem _).mpr this)
  have gK : ks[ks.length - 1]? = some ks[ks.length - 1] := List.getElem?_eq_getElem (by omega)
  obtain ⟨mK, leK⟩ := asc_last asc gK
  obtain ⟨p, et, hp⟩ := Paired.getR pp gK
  generalize ks[ks.length - 1] = kk at gK mK leK et hp
  have ekk : kk = cnt es l := by
    obtain ⟨m, hm, em⟩ := (mcs _).mp ((mem _).mp mK)
    have h1 := mx m hm
    have h2 := leK _ ((mem _).mpr ((mcs _).mpr ⟨l, ml, rfl⟩))
    omega
  subst ekk
  obtain ⟨t, hb, hl⟩ := pa
  have hb7 := s57 _ _ hb
  have ix : atI (ps.map V.ref) (-1) = some (.ref p) := last_ix (map_ref_ix (by rw [List.length_map, lp]; exact et))
  refine ⟨_, rfl, 1, rfl, tr, _, -1, .ref p, rfl, rfl, SqT.of ht7, ix, p, _, 0, _, rfl, rfl, SqT.of (s57 _ _ hp), rfl, _, rfl, br, _, 0, _, rfl, rfl, SqT.of hb7, rfl, rfl, _, rfl, iteNS rfl ?_⟩
  have hW7 := hW5.same s57
  refine ⟨_, rfl, _, rfl, br, _, 1, .ref t, rfl, rfl, SqT.of hb7, rfl, wa, t, n, es, l, rfl, hW7, gw, s57 _ _ hl, fl_len ml, fl_le1 n l ml, fun H8 s8 => ?_⟩
  have hb8 := s8 _ _ hb7
  refine ⟨_, rfl, br, _, 0, _, rfl, rfl, SqT.of hb8, rfl, rfl, _, rfl, iteNS rfl ?_⟩
  have hW8 := hW7.same s8
  refine ⟨_, rfl, br, _, 0, _, rfl, rfl, SqT.of hb8, rfl, _, rfl, wa, n, es, rfl, hW8, gw, fun H9 s9 => ?_⟩
  have pl : (posL es (fl n)).length ≤ 64 := Nat.le_trans (posL_le es (fl n)) (by rw [fl_length]; exact n64)
  have dmax : fac n ≤ cnt es l * (posL es (fl n)).length := by
    rw [← fl_cnt es n]
    exact sum_le_max es _ (fl n) mx
  refine ⟨_, _, rfl, rfl, .inr ⟨by omega, by omega⟩, _, rfl, _, _, rfl, rfl, false, congrArg V.bl (decide_eq_false ?_), iteF ?_⟩
  · rw [← Int.natCast_mul]
    omega
  have hW9 := hW8.same s9
  -- heads
  refine ⟨_, rfl, wa, n, es, rfl, hW9, gw, fun H10 hr s10 eh => ?_⟩
  have hW10 := hW9.same s10
  have eh' := eh
  rw [nV_ints] at eh'
  have hsum : (hsOf n es (fl n)).sum = (posL es (fl n)).length := hsOf_sum n es (fl n) fun m hm => fl_sum hm
  refine ⟨_, rfl, hr, _, rfl, SqT.of eh', ?_⟩
  rw [sum_nat_cast, hsum]
  refine ⟨_, rfl, wa, n, es, rfl, hW10, gw, fun H11 s11 => ?_⟩
  refine ⟨rfl, _, rfl, iteNS rfl ?_⟩
  have hW11 := hW10.same s11
  have eh11 := s11 _ _ eh
  obtain ⟨wb', wts', w1, w2, w3⟩ := id hW11
  have lw : wts'.length = es.length := Paired.length w3
  refine ⟨_, rfl, wa, _, 0, .int n, rfl, rfl, SqT.of w1, rfl, _, 1, rfl, rfl, _, rfl, by omega, by omega, fun E1 hE1 => ?_⟩
  refine lc_it walk_range (fun i H' => Same H11 H' ∧ H' E1 = some (.lst [])) ⟨same_new1 hE1, upd_same⟩ (fun _ _ _ _ => trivial) ?_ ?_
  · rintro i x B1 B2 hi ⟨sm, eD⟩ ⟨rfl, ex⟩
    have ek : x = V.int ((i : Nat) : Int) := by rw [ex]; exact congrArg V.int (by omega)
    subst ek
    have hin : i ≤ n := by omega
    refine ⟨rfl, _, rfl, _, rfl, hr, _, _, _, rfl, rfl, SqT.of (sm _ _ eh11), atI_nat (nV_ix (hsOf_get es (fl n) hin)), _, 0, rfl, rfl, _, rfl, ite2 (fun c => ?_) (fun c => ?_)⟩
    · have hp : 0 < hN es (fl n) i := by have := of_decide_eq_true c; omega
      obtain ⟨m, hm, mp, ms⟩ := hN_pos hp
      have ev := (full_even gw.edge hm mp).1
      rw [ms] at ev
      refine ⟨_, rfl, _, rfl, wa, _, 0, .int n, rfl, rfl, SqT.of (sm _ _ w1), rfl, _, _, rfl, rfl, _, rfl, wa, _, 1, .ref wb', rfl, rfl, SqT.of (sm _ _ w1), rfl, wb', _, rfl, .inr (SqT.of (sm _ _ w2)), _, _, rfl, rfl, .inl ⟨_, rfl, ?_⟩⟩
      refine ⟨_, 2, rfl, rfl, (by show (0 : Int) < 2; decide), rfl, _, rfl, iteNS (congrArg V.int ?_) ⟨sm, eD⟩⟩
      rw [List.length_map, lw]
      omega
    · exact ⟨sm, eD⟩
  rintro H12 ⟨s12, eE⟩
  refine ⟨(by show 0 ≤ sizeLine; decide), fun E2 hE2 => ?_⟩
  have s13 : Same H12 (upd H12 E2 (.lst [])) := same_new1 hE2
  refine ⟨_, _, Dp.lst (SqL.of (s13 _ _ eE)) .nil, Dp.lst (SqL.of upd_same) .nil, shaped_list [], shaped_list [], false, congrArg V.bl (by rw [show PyData.eqv (.list []) (.list []) = decide (([] : List Int) = []) from eqv_list [] []]; rfl), iteF ?_⟩
  generalize upd H12 E2 (.lst []) = H13 at s13
  have s513 : Same H5 H13 := (((((s57.trans s8).trans s9).trans s10).trans s11).trans s12).trans s13
  obtain ⟨fe1, fe2⟩ := full_even gw.edge ml lpos
  refine ⟨_, rfl, _, rfl, br, _, 1, .ref t, rfl, rfl, SqT.of (s513 _ _ hb), rfl, wa, t, n, es, l, rfl, hW5.same s513, gw, s513 _ _ hl, ml, fun H14 s14 => ?_⟩
  refine ⟨true, congrArg V.bl (decide_eq_true (by rw [fe2]; omega)), iteF ?_⟩
  have r14 := (r5.same s513).same s14
  -- the rows
  refine ⟨_, rfl, ra, a, 9, rfl, by decide, by decide, hns, r14, fun H15 v sx15 r15 hv => ?_⟩
  refine ⟨1, _, rfl, rfl, _, _, _, rfl, ?_⟩
  obtain ⟨m, en, m1, m9⟩ : ∃ m : Nat, (1 : Int) + (v : Int) = (m : Int) ∧ 1 ≤ m ∧ m ≤ 9 := ⟨1 + v, by omega, by omega, by omega⟩
  show tSeq _ _ _ [some (.ref a), some (.ref ra), some (.ref wa), some (.int ((fac n : Nat) : Int)), some (.int ((2 ^ (n - 1) : Nat) : Int)), y5, some (.ref tr), some (.ref br), none, none, some (.ref hr), some (.int ((1 : Int) + (v : Int))), some (.int 1), some (.int 1), none] H15
  rw [en]
  refine ⟨_, rfl, m, 1, rfl, rfl, 2, _, rfl, ⟨by decide, by decide, by omega, by omega⟩, ?_⟩
  refine for_it walk_range (fun i σ H' => ∃ y5, σ = [some (.ref a), some (.ref ra), some (.ref wa), some (.int ((fac n : Nat) : Int)), some (.int ((2 ^ (n - 1) : Nat) : Int)), y5, some (.ref tr), some (.ref br), none, none, some (.ref hr), some (.int (m : Int)), some (.int ((fac (i + 1) : Nat) : Int)), some (.int ((2 ^ i : Nat) : Int)), none] ∧ H' = H15) ⟨_, rfl, rfl⟩ (fun _ _ _ _ _ => trivial) ?_ ?_
  · rintro i x σ B1 B2 hi ⟨y5, rfl, rfl⟩ ⟨rfl, ex⟩
    have ek : x = V.int ((i + 2 : Nat) : Int) := by rw [ex]; exact congrArg V.int (by omega)
    subst ek
    refine ⟨_, rfl, _, rfl, _, _, rfl, rfl, .inr ⟨by omega, by omega⟩, _, rfl, _, 2, rfl, rfl, .inr (by omega), _, _, rfl, some (.int ((i + 2 : Nat) : Int)), ?_, rfl⟩
    have e1 : ((fac (i + 1) : Nat) : Int) * ((i + 2 : Nat) : Int) = ((fac (i + 1 + 1) : Nat) : Int) := by
      rw [← Int.natCast_mul]
      show (((fac (i + 1) * (i + 2) : Nat)) : Int) = (((i + 2) * fac (i + 1) : Nat) : Int)
      rw [Nat.mul_comm]
    have e2 : ((2 ^ i : Nat) : Int) * 2 = ((2 ^ (i + 1) : Nat) : Int) := by rw [Nat.pow_succ, Int.natCast_mul]; rfl
    show [some (V.ref a), some (.ref ra), some (.ref wa), some (.int ((fac n : Nat) : Int)), some (.int ((2 ^ (n - 1) : Nat) : Int)), some (.int ((i + 2 : Nat) : Int)), some (.ref tr), some (.ref br), none, none, some (.ref hr), some (.int (m : Int)), some (.int (((fac (i + 1) : Nat) : Int) * ((i + 2 : Nat) : Int))), some (.int (((2 ^ i : Nat) : Int) * 2)), none] = _
    rw [e1, e2]
  rintro σ B1 ⟨y5, rfl, rfl⟩
  rw [show ((m : Int) + 1 - 2).toNat = m - 1 by omega, show m - 1 + 1 = m by omega]
  refine ⟨_, rfl, m, rfl, m1, m9, fun H16 rr s16 rtab => ?_⟩
  obtain ⟨qs, js, hq, qq, jasc, jmem⟩ := rtab
  have rs0 := rows_sum m (by omega) m1
  obtain ⟨rm1, rm2⟩ := rows_max m (by omega) m1
  have rl : ((fl m).map (rowVal m)).length ≤ 512 := by rw [List.length_map, fl_length]; exact pow9 m9
  generalize hrc : (fl m).map (rowVal m) = rc at qq jmem rs0 rm1 rm2 rl
  have lq : qs.length = js.length := Paired.length qq
  have jnd := asc_nodup jasc
  have jle : js.length ≤ 512 := Nat.le_trans (len_le jnd fun k hk => (jmem k).mp hk) rl
  have sr : (js.map fun k => k * rc.count k).sum = fac m := by
    rw [tab_sum (fun k => k) js jnd rc fun c hc => (jmem c).mpr hc, List.map_id', rs0]
  refine ⟨_, rfl, rr, rfl, ⟨_, SqT.of hq⟩, fun D2 hD2 => ?_⟩
  refine lc_it (walk_tup (K := K) (a := rr) (xs := qs.map V.ref)) (fun i H' => Same H16 H' ∧ H' D2 = some (.lst (nV ((js.take i).map fun k => k * rc.count k)))) ⟨same_new1 hD2, upd_same⟩ (fun i H' _ ⟨s, _⟩ => SqT.of (s _ _ hq)) ?_ ?_
  · rintro i x C1 C2 hi ⟨sm, eD⟩ ⟨rfl, ex⟩
    rw [List.length_map] at hi
    have gk : js[i]? = some js[i] := List.getElem?_eq_getElem (by omega)
    obtain ⟨p, et, hp⟩ := Paired.getR qq gk
    generalize js[i] = k at gk hp
    obtain rfl := Option.some.inj ((map_ref_ix et).symm.trans ex)
    have hc : rc.count k ≤ 512 := Nat.le_trans List.count_le_length rl
    refine ⟨p, _, rfl, SqT.of (sm _ _ hp), rfl, _, [_], rfl, _, [], rfl, rfl, rfl, ?_⟩
    refine ⟨_, rfl, _, rfl, _, _, rfl, rfl, .inr ⟨by omega, by omega⟩, _, eD, ?_, fun b o z => ?_, ?_⟩
    · rw [nV_length, List.length_map, List.length_take]
      exact small1000 (by omega)
    · rw [upd_ne (fun e => by rw [e, hD2] at z; cases z)]
      exact sm _ _ z
    · rw [upd_same, List.take_add_one, gk, List.map_append, nV_append]
      show some (HO.lst (_ ++ [V.int ((k : Int) * ((rc.count k : Nat) : Int))])) = some (HO.lst (_ ++ [V.int ((k * rc.count k : Nat) : Int)]))
      rw [Int.natCast_mul]
  rintro H17 ⟨s17, eD2⟩
  rw [List.length_map, lq, List.take_of_length_le (Nat.le_refl _), nV_ints] at eD2
  refine ⟨D2, _, rfl, SqL.of eD2, ?_⟩
  rw [sum_nat_cast, sr]
  refine ⟨_, rfl, rfl, _, rfl, iteNS rfl ?_⟩
  -- the last of the rows
  have gin : max (gr m 0) (gr m 1) ∈ rc := by
    rw [List.contains_iff_mem] at rm2
    exact rm2
  have gle : ∀ c ∈ rc, c ≤ max (gr m 0) (gr m 1) := fun c hc => of_decide_eq_true (List.all_eq_true.mp rm1 c hc)
  have j0 : 0 < js.length := List.length_pos_of_mem ((jmem _).mpr gin)
  have gJ : js[js.length - 1]? = some js[js.length - 1] := List.getElem?_eq_getElem (by omega)
  obtain ⟨mJ, leJ⟩ := asc_last jasc gJ
  obtain ⟨p2, et2, hp2⟩ := Paired.getR qq gJ
  generalize js[js.length - 1] = jj at gJ mJ leJ et2 hp2
  have ejj : jj = max (gr m 0) (gr m 1) := by
    have h1 := gle _ ((jmem _).mp mJ)
    have h2 := leJ _ ((jmem _).mpr gin)
    omega
  subst ejj
  have ix2 : atI (qs.map V.ref) (-1) = some (.ref p2) := last_ix (map_ref_ix (by rw [List.length_map, lq]; exact et2))
  refine ⟨_, rfl, 1, rfl, rr, _, -1, .ref p2, rfl, rfl, SqT.of (s17 _ _ hq), ix2, p2, _, 0, _, rfl, rfl, SqT.of (s17 _ _ hp2), rfl, _, rfl, m, rfl, m1, m9, fun H18 g v2 s18 eg => ?_⟩
  refine ⟨g, _, 0, _, rfl, rfl, SqT.of eg, rfl, rfl, _, rfl, iteNS rfl ?_⟩
  -- the two sums
  refine ⟨_, rfl, m, rfl, m1, m9, fun H19 o s19 eo => ?_⟩
  rw [nV_ints] at eo
  refine ⟨o, _, rfl, SqT.of eo, ?_⟩
  rw [sum_nat_cast, ord_sum m (by omega) m1]
  refine ⟨_, rfl, rfl, true, congrArg V.bl (decide_eq_true rfl), iteT ?_⟩
  refine ⟨_, rfl, m, rfl, m1, m9, fun H20 o2 s20 eo2 => ?_⟩
  rw [nV_ints] at eo2
  refine ⟨o2, _, rfl, SqT.of eo2, ?_⟩
  rw [sum_nat_cast, rowsF_sum m (by omega) m1]
  refine ⟨_, rfl, rfl, ?_⟩
  have z := q H20
  rw [show true = decide (V.int ((2 ^ (m - 1) : Nat) : Int) = V.int ((2 ^ (m - 1) : Nat) : Int)) from (decide_eq_true rfl).symm] at z
  exact z
end
end Ck

namespace Ck
open PySem PySem.Spec PyProof.Rows L2
/-! ### the head: facts by names, the run -/
def d_is_in : He.DefD := ⟨("is_in", none), "is_in", "is_in", defArgs s_is_in, defBody s_is_in, defScope s_is_in, [], []⟩
def d_is_edge : He.DefD := ⟨("is_edge", none), "is_edge", "is_edge", defArgs s_is_edge, defBody s_is_edge, defScope s_is_edge, [], []⟩
def d_need_web : He.DefD := ⟨("need_web", none), "need_web", "need_web", defArgs s_need_web, defBody s_need_web, defScope s_need_web, [], []⟩
def d_need_full : He.DefD := ⟨("need_full", none), "need_full", "need_full", defArgs s_need_full, defBody s_need_full, defScope s_need_full, [], []⟩
def d_need_both : He.DefD := ⟨("need_both", none), "need_both", "need_both", defArgs s_need_both, defBody s_need_both, defScope s_need_both, [], []⟩
def d_neighbours_in : He.DefD := ⟨("neighbours_in", none), "neighbours_in", "neighbours_in", defArgs s_neighbours_in, defBody s_neighbours_in, defScope s_neighbours_in, [], []⟩
def d_heads_in : He.DefD := ⟨("heads_in", none), "heads_in", "heads_in", defArgs s_heads_in, defBody s_heads_in, defScope s_heads_in, [], []⟩
def d_taken_in : He.DefD := ⟨("taken_in", none), "taken_in", "taken_in", defArgs s_taken_in, defBody s_taken_in, defScope s_taken_in, [], []⟩
def d_count_in : He.DefD := ⟨("count_in", none), "count_in", "count_in", defArgs s_count_in, defBody s_count_in, defScope s_count_in, [], []⟩
def d_order_count : He.DefD := ⟨("order_count", none), "order_count", "order_count", defArgs s_order_count, defBody s_order_count, defScope s_order_count, [], []⟩
def d_full_layings : He.DefD := ⟨("full_layings", none), "full_layings", "full_layings", defArgs s_full_layings, defBody s_full_layings, defScope s_full_layings, [], []⟩
def d_clearable_in : He.DefD := ⟨("clearable_in", none), "clearable_in", "clearable_in", defArgs s_clearable_in, defBody s_clearable_in, defScope s_clearable_in, [], []⟩
def d_laying_count : He.DefD := ⟨("laying_count", none), "laying_count", "laying_count", defArgs s_laying_count, defBody s_laying_count, defScope s_laying_count, [], []⟩
def d_is_even : He.DefD := ⟨("is_even", none), "is_even", "is_even", defArgs s_is_even, defBody s_is_even, defScope s_is_even, [], []⟩
def d_counts_in : He.DefD := ⟨("counts_in", none), "counts_in", "counts_in", defArgs s_counts_in, defBody s_counts_in, defScope s_counts_in, [], []⟩
def d_layings_by_count : He.DefD := ⟨("layings_by_count", none), "layings_by_count", "layings_by_count", defArgs s_layings_by_count, defBody s_layings_by_count, defScope s_layings_by_count, [], []⟩
def d_most_in : He.DefD := ⟨("most_in", none), "most_in", "most_in", defArgs s_most_in, defBody s_most_in, defScope s_most_in, [], []⟩
def d_most_orders : He.DefD := ⟨("most_orders", none), "most_orders", "most_orders", defArgs s_most_orders, defBody s_most_orders, defScope s_most_orders, [], []⟩
def d_heads_by_count : He.DefD := ⟨("heads_by_count", none), "heads_by_count", "heads_by_count", defArgs s_heads_by_count, defBody s_heads_by_count, defScope s_heads_by_count, [], []⟩
def d_falls_in : He.DefD := ⟨("falls_in", none), "falls_in", "falls_in", defArgs s_falls_in, defBody s_falls_in, defScope s_falls_in, [], []⟩
def d_row_of_falls : He.DefD := ⟨("row_of_falls", none), "row_of_falls", "row_of_falls", defArgs s_row_of_falls, defBody s_row_of_falls, defScope s_row_of_falls, [], []⟩
def d_next_counts : He.DefD := ⟨("next_counts", none), "next_counts", "next_counts", defArgs s_next_counts, defBody s_next_counts, defScope s_next_counts, [], []⟩
def d_count_of : He.DefD := ⟨("count_of", none), "count_of", "count_of", defArgs s_count_of, defBody s_count_of, defScope s_count_of, [], []⟩
def d_chosen : He.DefD := ⟨("chosen", none), "chosen", "chosen", defArgs s_chosen, defBody s_chosen, defScope s_chosen, [], []⟩
def d_greatest_row : He.DefD := ⟨("greatest_row", none), "greatest_row", "greatest_row", defArgs s_greatest_row, defBody s_greatest_row, defScope s_greatest_row, [], []⟩
def d_rows_by_count : He.DefD := ⟨("rows_by_count", none), "rows_by_count", "rows_by_count", defArgs s_rows_by_count, defBody s_rows_by_count, defScope s_rows_by_count, [], []⟩
def d_need_many : He.DefD := ⟨("need_many", none), "need_many", "need_many", defArgs s_need_many, defBody s_need_many, defScope s_need_many, [], []⟩
def d_orders_by_falls : He.DefD := ⟨("orders_by_falls", none), "orders_by_falls", "orders_by_falls", defArgs s_orders_by_falls, defBody s_orders_by_falls, defScope s_orders_by_falls, [], []⟩
def d_rows_by_falls : He.DefD := ⟨("rows_by_falls", none), "rows_by_falls", "rows_by_falls", defArgs s_rows_by_falls, defBody s_rows_by_falls, defScope s_rows_by_falls, [], []⟩
def d_law_taken : He.DefD := ⟨("_law_taken", none), "_law_taken", "_law_taken", defArgs s_law_taken, defBody s_law_taken, defScope s_law_taken, [], []⟩
def d_law_order : He.DefD := ⟨("_law_order", none), "_law_order", "_law_order", defArgs s_law_order, defBody s_law_order, defScope s_law_order, [], []⟩
def d_law_web : He.DefD := ⟨("_law_web", none), "_law_web", "_law_web", defArgs s_law_web, defBody s_law_web, defScope s_law_web, [], []⟩
def d_law : He.DefD := ⟨("law", none), "law", "law", defArgs s_law, defBody s_law, defScope s_law, [], []⟩
def fn : List He.DefD := [d_is_in, d_is_edge, d_need_web, d_need_full, d_need_both, d_neighbours_in, d_heads_in, d_taken_in, d_count_in, d_order_count, d_full_layings, d_clearable_in, d_laying_count, d_is_even, d_counts_in, d_layings_by_count, d_most_in, d_most_orders, d_heads_by_count, d_falls_in, d_row_of_falls, d_next_counts, d_count_of, d_chosen, d_greatest_row, d_rows_by_count, d_need_many, d_orders_by_falls, d_rows_by_falls, d_law_taken, d_law_order, d_law_web, d_law]
def fa : List He.Fa := [.glo "is_in", .glo "is_edge", .glo "need_web", .glo "need_full", .glo "need_both", .glo "neighbours_in", .glo "heads_in", .glo "taken_in", .glo "count_in", .glo "order_count", .glo "full_layings", .glo "clearable_in", .glo "laying_count", .glo "is_even", .glo "counts_in", .glo "layings_by_count", .glo "most_in", .glo "most_orders", .glo "heads_by_count", .glo "falls_in", .glo "row_of_falls", .glo "next_counts", .glo "count_of", .glo "chosen", .glo "greatest_row", .glo "rows_by_count", .glo "need_many", .glo "orders_by_falls", .glo "rows_by_falls", .glo "_law_taken", .glo "_law_order", .glo "_law_web", .glo "law", .int "MOST_PLACES" 9, .int "MOST_ROW" 40, .int "MOST_LISTED" 9, .free "isinstance", .free "len", .free "enumerate", .free "sorted", .free "list", .free "tuple", .free "sum", .free "range", .free "min", .free "max", .free "int", .free "set", .free "bool"]
abbrev R : PySem.W.OpenRow := PySem.W.OpenLaw.row PySem.Challenge.rw_cointakes_k89_across_counts_of_layings
abbrev hk : PySem.W.Hook := He.hookD 4 fa fn
def ob (s : PySem.W.SharedT) : He.AlD := He.obsDG 4 fa fn (HandSHeadRun.getT s)
theorem ob_eq (s : PySem.W.SharedT) : ob s = hk.obs s.abs := He.obsDG_eq (HandSHeadRun.getT_eq s)
def loose : List PySem.Str := (["__name__", "CoinError", "BadWeb", "BadLaying", "BadCount", "BadFalls", "is_in", "MOST_PLACES", "is_edge", "need_web", "need_full", "need_both", "neighbours_in", "heads_in", "taken_in", "count_in", "order_count", "full_layings", "clearable_in", "laying_count", "is_even", "counts_in", "layings_by_count", "most_in", "most_orders", "heads_by_count", "MOST_ROW", "MOST_LISTED", "falls_in", "row_of_falls"] : List PySem.Str) ++ (["next_counts", "count_of", "chosen", "greatest_row", "rows_by_count", "need_many", "orders_by_falls", "rows_by_falls", "_law_taken", "_law_order", "_law_web"] : List PySem.Str)
theorem run (w : World) : HandSHeadRun.RunEq R (PySem.W.view R.prog [49]) hk ob 3000 loose w := by
  intro os
  kernel_rfl
/-! ### all together -/
theorem facts {P : Program} {w : World} {K : PySem.W.Frag} {h : Heap} {mg : Str → Option Value} {f : Addr} (X : K.In h) (G : h.Ns mainGlobals mg) (hfa : mg ("law" : Str) = some (.ref f)) (c : He.SaysD fa fn K) :
    ∃ fd : FuncData, (∀ (s : Shared) (v : Value), BindsTo s fd ⟨[v], []⟩ [("_law_script", v)]) ∧ ∀ base : Heap, K.In base → base.Ns mainGlobals mg → FnOk P w K mg base CX0 13 f fd ["_law_script"] (spLaw K) := by
  have T : Tx mg := ⟨He.free_ok X G (c.fact 36 (f := .free "isinstance") rfl), He.free_ok X G (c.fact 37 (f := .free "len") rfl), He.free_ok X G (c.fact 38 (f := .free "enumerate") rfl), He.free_ok X G (c.fact 39 (f := .free "sorted") rfl), He.free_ok X G (c.fact 40 (f := .free "list") rfl), He.free_ok X G (c.fact 41 (f := .free "tuple") rfl), He.free_ok X G (c.fact 42 (f := .free "sum") rfl), He.free_ok X G (c.fact 43 (f := .free "range") rfl), He.free_ok X G (c.fact 44 (f := .free "min") rfl), He.free_ok X G (c.fact 45 (f := .free "max") rfl), He.free_ok X G (c.fact 46 (f := .free "int") rfl), He.free_ok X G (c.fact 47 (f := .free "set") rfl), He.free_ok X G (c.fact 48 (f := .free "bool") rfl), He.int_ok X G (c.fact 33 (f := .int "MOST_PLACES" 9) rfl), He.int_ok X G (c.fact 34 (f := .int "MOST_ROW" 40) rfl), He.int_ok X G (c.fact 35 (f := .int "MOST_LISTED" 9) rfl)⟩
  have h_is_in : Has K mg "is_in" s_is_in := by
    obtain ⟨fd, F⟩ := c.def_ 0 (d := d_is_in) rfl
    exact ⟨_, fd, F, He.glo_ok X G (c.fact 0 (f := .glo "is_in") rfl)⟩
  have h_is_edge : Has K mg "is_edge" s_is_edge := by
    obtain ⟨fd, F⟩ := c.def_ 1 (d := d_is_edge) rfl
    exact ⟨_, fd, F, He.glo_ok X G (c.fact 1 (f := .glo "is_edge") rfl)⟩
  have h_need_web : Has K mg "need_web" s_need_web := by
    obtain ⟨fd, F⟩ := c.def_ 2 (d := d_need_web) rfl
    exact ⟨_, fd, F, He.glo_ok X G (c.fact 2 (f := .glo "need_web") rfl)⟩
  have h_need_full : Has K mg "need_full" s_need_full := by
    obtain ⟨fd, F⟩ := c.def_ 3 (d := d_need_full) rfl
    exact ⟨_, fd, F, He.glo_ok X G (c.fact 3 (f := .glo "need_full") rfl)⟩
  have h_need_both : Has K mg "need_both" s_need_both := by
    obtain ⟨fd, F⟩ := c.def_ 4 (d := d_need_both) rfl
    exact ⟨_, fd, F, He.glo_ok X G (c.fact 4 (f := .glo "need_both") rfl)⟩
  have h_neighbours_in : Has K mg "neighbours_in" s_neighbours_in := by
    obtain ⟨fd, F⟩ := c.def_ 5 (d := d_neighbours_in) rfl
    exact ⟨_, fd, F, He.glo_ok X G (c.fact 5 (f := .glo "neighbours_in") rfl)⟩
  have h_heads_in : Has K mg "heads_in" s_heads_in := by
    obtain ⟨fd, F⟩ := c.def_ 6 (d := d_heads_in) rfl
    exact ⟨_, fd, F, He.glo_ok X G (c.fact 6 (f := .glo "heads_in") rfl)⟩
  have h_taken_in : Has K mg "taken_in" s_taken_in := by
    obtain ⟨fd, F⟩ := c.def_ 7 (d := d_taken_in) rfl
    exact ⟨_, fd, F, He.glo_ok X G (c.fact 7 (f := .glo "taken_in") rfl)⟩
  have h_count_in : Has K mg "count_in" s_count_in := by
    obtain ⟨fd, F⟩ := c.def_ 8 (d := d_count_in) rfl
    exact ⟨_, fd, F, He.glo_ok X G (c.fact 8 (f := .glo "count_in") rfl)⟩
  have h_order_count : Has K mg "order_count" s_order_count := by
    obtain ⟨fd, F⟩ := c.def_ 9 (d := d_order_count) rfl
    exact ⟨_, fd, F, He.glo_ok X G (c.fact 9 (f := .glo "order_count") rfl)⟩
  have h_full_layings : Has K mg "full_layings" s_full_layings := by
    obtain ⟨fd, F⟩ := c.def_ 10 (d := d_full_layings) rfl
    exact ⟨_, fd, F, He.glo_ok X G (c.fact 10 (f := .glo "full_layings") rfl)⟩
  have h_clearable_in : Has K mg "clearable_in" s_clearable_in := by
    obtain ⟨fd, F⟩ := c.def_ 11 (d := d_clearable_in) rfl
    exact ⟨_, fd, F, He.glo_ok X G (c.fact 11 (f := .glo "clearable_in") rfl)⟩
  have h_laying_count : Has K mg "laying_count" s_laying_count := by
    obtain ⟨fd, F⟩ := c.def_ 12 (d := d_laying_count) rfl
    exact ⟨_, fd, F, He.glo_ok X G (c.fact 12 (f := .glo "laying_count") rfl)⟩
  have h_is_even : Has K mg "is_even" s_is_even := by
    obtain ⟨fd, F⟩ := c.def_ 13 (d := d_is_even) rfl
    exact ⟨_, fd, F, He.glo_ok X G (c.fact 13 (f := .glo "is_even") rfl)⟩
  have h_counts_in : Has K mg "counts_in" s_counts_in := by
    obtain ⟨fd, F⟩ := c.def_ 14 (d := d_counts_in) rfl
    exact ⟨_, fd, F, He.glo_ok X G (c.fact 14 (f := .glo "counts_in") rfl)⟩
  have h_layings_by_count : Has K mg "layings_by_count" s_layings_by_count := by
    obtain ⟨fd, F⟩ := c.def_ 15 (d := d_layings_by_count) rfl
    exact ⟨_, fd, F, He.glo_ok X G (c.fact 15 (f := .glo "layings_by_count") rfl)⟩
  have h_most_in : Has K mg "most_in" s_most_in := by
    obtain ⟨fd, F⟩ := c.def_ 16 (d := d_most_in) rfl
    exact ⟨_, fd, F, He.glo_ok X G (c.fact 16 (f := .glo "most_in") rfl)⟩
  have h_most_orders : Has K mg "most_orders" s_most_orders := by
    obtain ⟨fd, F⟩ := c.def_ 17 (d := d_most_orders) rfl
    exact ⟨_, fd, F, He.glo_ok X G (c.fact 17 (f := .glo "most_orders") rfl)⟩
  have h_heads_by_count : Has K mg "heads_by_count" s_heads_by_count := by
    obtain ⟨fd, F⟩ := c.def_ 18 (d := d_heads_by_count) rfl
    exact ⟨_, fd, F, He.glo_ok X G (c.fact 18 (f := .glo "heads_by_count") rfl)⟩
  have h_falls_in : Has K mg "falls_in" s_falls_in := by
    obtain ⟨fd, F⟩ := c.def_ 19 (d := d_falls_in) rfl
    exact ⟨_, fd, F, He.glo_ok X G (c.fact 19 (f := .glo "falls_in") rfl)⟩
  have h_row_of_falls : Has K mg "row_of_falls" s_row_of_falls := by
    obtain ⟨fd, F⟩ := c.def_ 20 (d := d_row_of_falls) rfl
    exact ⟨_, fd, F, He.glo_ok X G (c.fact 20 (f := .glo "row_of_falls") rfl)⟩
  have h_next_counts : Has K mg "next_counts" s_next_counts := by
    obtain ⟨fd, F⟩ := c.def_ 21 (d := d_next_counts) rfl
    exact ⟨_, fd, F, He.glo_ok X G (c.fact 21 (f := .glo "next_counts") rfl)⟩
  have h_count_of : Has K mg "count_of" s_count_of := by
    obtain ⟨fd, F⟩ := c.def_ 22 (d := d_count_of) rfl
    exact ⟨_, fd, F, He.glo_ok X G (c.fact 22 (f := .glo "count_of") rfl)⟩
  have h_chosen : Has K mg "chosen" s_chosen := by
    obtain ⟨fd, F⟩ := c.def_ 23 (d := d_chosen) rfl
    exact ⟨_, fd, F, He.glo_ok X G (c.fact 23 (f := .glo "chosen") rfl)⟩
  have h_greatest_row : Has K mg "greatest_row" s_greatest_row := by
    obtain ⟨fd, F⟩ := c.def_ 24 (d := d_greatest_row) rfl
    exact ⟨_, fd, F, He.glo_ok X G (c.fact 24 (f := .glo "greatest_row") rfl)⟩
  have h_rows_by_count : Has K mg "rows_by_count" s_rows_by_count := by
    obtain ⟨fd, F⟩ := c.def_ 25 (d := d_rows_by_count) rfl
    exact ⟨_, fd, F, He.glo_ok X G (c.fact 25 (f := .glo "rows_by_count") rfl)⟩
  have h_need_many : Has K mg "need_many" s_need_many := by
    obtain ⟨fd, F⟩ := c.def_ 26 (d := d_need_many) rfl
    exact ⟨_, fd, F, He.glo_ok X G (c.fact 26 (f := .glo "need_many") rfl)⟩
  have h_orders_by_falls : Has K mg "orders_by_falls" s_orders_by_falls := by
    obtain ⟨fd, F⟩ := c.def_ 27 (d := d_orders_by_falls) rfl
    exact ⟨_, fd, F, He.glo_ok X G (c.fact 27 (f := .glo "orders_by_falls") rfl)⟩
  have h_rows_by_falls : Has K mg "rows_by_falls" s_rows_by_falls := by
    obtain ⟨fd, F⟩ := c.def_ 28 (d := d_rows_by_falls) rfl
    exact ⟨_, fd, F, He.glo_ok X G (c.fact 28 (f := .glo "rows_by_falls") rfl)⟩
  have h_law_taken : Has K mg "_law_taken" s_law_taken := by
    obtain ⟨fd, F⟩ := c.def_ 29 (d := d_law_taken) rfl
    exact ⟨_, fd, F, He.glo_ok X G (c.fact 29 (f := .glo "_law_taken") rfl)⟩
  have h_law_order : Has K mg "_law_order" s_law_order := by
    obtain ⟨fd, F⟩ := c.def_ 30 (d := d_law_order) rfl
    exact ⟨_, fd, F, He.glo_ok X G (c.fact 30 (f := .glo "_law_order") rfl)⟩
  have h_law_web : Has K mg "_law_web" s_law_web := by
    obtain ⟨fd, F⟩ := c.def_ 31 (d := d_law_web) rfl
    exact ⟨_, fd, F, He.glo_ok X G (c.fact 31 (f := .glo "_law_web") rfl)⟩
  obtain ⟨fd, F⟩ := c.def_ 32 (d := d_law) rfl
  have e := hfa.symm.trans (He.glo_ok X G (c.fact 32 (f := .glo "law") rfl))
  cases e
  have b := FunD.bindsA (ps := ["_law_script"]) F fun _ _ _ _ _ _ us hl => match us, hl with | [_], _ => rfl
  refine ⟨fd, fun s v => b s [v] rfl, fun base _ _ => ?_⟩
  have c_is_in := ok_is_in (P := P) (w := w) (base := base) T h_is_in
  have c_is_edge := ok_is_edge (P := P) (w := w) (base := base) T h_is_edge c_is_in
  have c_need_web := ok_need_web (P := P) (w := w) (base := base) T h_need_web c_is_in c_is_edge
  have c_need_full := ok_need_full (P := P) (w := w) (base := base) T h_need_full c_is_in
  have c_need_both := ok_need_both (P := P) (w := w) (base := base) T h_need_both c_need_web c_need_full
  have c_neighbours_in := ok_neighbours_in (P := P) (w := w) (base := base) T h_neighbours_in
  have c_heads_in := ok_heads_in (P := P) (w := w) (base := base) T h_heads_in
  have c_taken_in := ok_taken_in (P := P) (w := w) (base := base) T h_taken_in c_neighbours_in
  have c_count_in := ok_count_in (P := P) (w := w) (base := base) T h_count_in c_heads_in c_taken_in 7
  have c_order_count := ok_order_count (P := P) (w := w) (base := base) T h_order_count c_need_both c_count_in
  have c_full_layings := ok_full_layings (P := P) (w := w) (base := base) T h_full_layings
  have c_clearable_in := ok_clearable_in (P := P) (w := w) (base := base) T h_clearable_in c_full_layings c_count_in
  have c_laying_count := ok_laying_count (P := P) (w := w) (base := base) T h_laying_count c_need_web c_clearable_in
  have c_is_even := ok_is_even (P := P) (w := w) (base := base) T h_is_even c_need_both c_heads_in
  have c_counts_in := ok_counts_in (P := P) (w := w) (base := base) T h_counts_in c_full_layings c_count_in
  have c_layings_by_count := ok_layings_by_count (P := P) (w := w) (base := base) T h_layings_by_count c_need_web c_counts_in
  have c_most_in := ok_most_in (P := P) (w := w) (base := base) T h_most_in c_counts_in
  have c_most_orders := ok_most_orders (P := P) (w := w) (base := base) T h_most_orders c_need_web c_most_in
  have c_heads_by_count := ok_heads_by_count (P := P) (w := w) (base := base) T h_heads_by_count c_need_web c_counts_in
  have c_falls_in := ok_falls_in (P := P) (w := w) (base := base) T h_falls_in
  have c_row_of_falls := ok_row_of_falls (P := P) (w := w) (base := base) T h_row_of_falls c_is_in
  have c_next_counts := ok_next_counts (P := P) (w := w) (base := base) T h_next_counts
  have c_count_of := ok_count_of (P := P) (w := w) (base := base) T h_count_of c_next_counts
  have c_chosen := ok_chosen (P := P) (w := w) (base := base) T h_chosen
  have c_greatest_row := ok_greatest_row (P := P) (w := w) (base := base) T h_greatest_row c_is_in c_count_of c_row_of_falls
  have c_rows_by_count := ok_rows_by_count (P := P) (w := w) (base := base) T h_rows_by_count c_is_in c_falls_in c_count_of
  have c_need_many := ok_need_many (P := P) (w := w) (base := base) T h_need_many c_is_in
  have c_orders_by_falls := ok_orders_by_falls (P := P) (w := w) (base := base) T h_orders_by_falls c_need_many
  have c_rows_by_falls := ok_rows_by_falls (P := P) (w := w) (base := base) T h_rows_by_falls c_need_many c_chosen
  have c_law_taken := fun ns => ok_law_taken (P := P) (w := w) (base := base) T ns h_law_taken
  have c_law_order := fun ns => ok_law_order (P := P) (w := w) (base := base) T ns h_law_order (c_law_taken ns)
  have c_law_web := fun ns => ok_law_web (P := P) (w := w) (base := base) T ns h_law_web (c_law_taken ns) (c_law_order ns)
  exact ok_law T F c_law_taken c_law_web c_layings_by_count c_most_orders c_order_count c_laying_count c_heads_by_count c_is_even c_rows_by_count c_greatest_row c_orders_by_falls c_rows_by_falls
end Ck
open PySem PySem.W PySem.Calls PyProof.Rows
theorem PySem.Challenge.cw_cointakes_k89_across_counts_of_layings_holds : PySem.Challenge.rw_cointakes_k89_across_counts_of_layings.Holds := by
  w_on; o_law
  refine HandSHeadRun.head_any (r := OpenLaw.row PySem.Challenge.rw_cointakes_k89_across_counts_of_layings) (q := view (OpenLaw.row PySem.Challenge.rw_cointakes_k89_across_counts_of_layings).prog [49]) (H := Ck.hk) (ob := Ck.ob) (M := 3000) (loose := Ck.loose) (d := HandSHeadRun.topDef (OpenLaw.row PySem.Challenge.rw_cointakes_k89_across_counts_of_layings).prog 49) (kwd := []) Ck.ob_eq
    (by kernel_rfl) (fun s => by kernel_rfl) Ck.run (by kernel_rfl) (by kernel_rfl) (by kernel_rfl) (by rfl) (by first | assumption | decide +kernel) (by decide +kernel) ⟨rfl, rfl, rfl, rfl, rfl, by decide +kernel⟩ ?hw ?hc
  case hw => w_witness2
  case hc =>
    refine L2.walk_ofE (l := PySem.Challenge.rw_cointakes_k89_across_counts_of_layings) (n := 63) (k := 13) (x := "_law_script") (CX := L2.CX0) rfl (by decide) (by kernel_rfl) ⟨rfl, by decide, by decide⟩ ?F (fun _ _ _ _ z => z)
    intro w mg fa h Y G hmg0
    obtain ⟨K, KX, c⟩ := Y
    have hmg : mg ("law" : PySem.Str) = some (.ref fa) := by
      have e : (HandSHeadRun.topDef (OpenLaw.row PySem.Challenge.rw_cointakes_k89_across_counts_of_layings).prog 49).name = ("law" : PySem.Str) := by kernel_rfl
      rw [← e]
      exact hmg0
    obtain ⟨fd, hb, hF⟩ := Ck.facts (P := (PySem.Challenge.rw_cointakes_k89_across_counts_of_layings).prog) (w := w) KX G hmg c
    exact ⟨K, fd, Ck.spLaw K, KX, hb, fun H a ns hl _ hS => ⟨a, ns, rfl, hS, Nat.le_trans hl (by decide), fun _ => rfl⟩, hF⟩

