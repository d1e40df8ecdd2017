import PyProof.Rows.All
import Wide.All
import OpenK.AllK
import Wide.FinOn
import HandS.ForMost
import HandS.Evl
import HandS.Walk
import HandS.IsInst
import HandS.Star
import HandS.Zip
import HandS.DictComp
import HandS.Conv
import HandS.Style
import HandS.TupSets
import KE.GoesEnum
import HandS.SortInts
import PyProof.DictCompW
import HandS.More
import KE.SortData
import KE.DataMinMax
import HandS.Strs
import PySem.Challenge.RW_linepainters_k46_whole_several
set_option Elab.async false
set_option linter.all false
set_option maxRecDepth 100000
set_option maxHeartbeats 8000000
set_option autoImplicit false
/-! ## LpMath -/
/-! The mathematics of pictures, layers and least sets: plain Lean, no program in sight.
A picture of h rows and w columns is a function c : Nat → Nat → Bool (true: black), read below h and w alone. -/
namespace LP
abbrev Pic := Nat → Nat → Bool

/-- the cells at which two pictures differ, row by row -/
def differ (h w : Nat) (s g : Pic) : List (Nat × Nat) :=
  (List.range h).flatMap fun i => ((List.range w).filter fun j => s i j != g i j).map fun j => (i, j)
/-- where a line's arrows lead -/
def leads (h w : Nat) (c : Pic) (l : Nat) : List Nat :=
  if l < h then ((List.range w).filter fun j => !c l j).map fun j => h + j else (List.range h).filter fun i => c i (l - h)
/-- one layer off a list of lines -/
def layer (W : Nat → List Nat) (left : List Nat) : List Nat := left.filter fun l => !((W l).any fun o => decide (o ∈ left))
def layersGo (W : Nat → List Nat) : Nat → List Nat → List (List Nat)
  | 0, _ => []
  | n + 1, left => if layer W left = [] then [] else layer W left :: layersGo W n (left.filter fun l => !decide (l ∈ layer W left))
def layers (h w : Nat) (c : Pic) : List (List Nat) := layersGo (leads h w c) (h + w) (List.range (h + w))
def core (h w : Nat) (c : Pic) : List Nat := (List.range (h + w)).filter fun l => !decide (l ∈ (layers h w c).flatten)

/-! ### the law's layers -/
structure LS where
  rows : List Nat
  cols : List Nat
  found : List (List Nat)
def full (c : Pic) (s : LS) : List Nat := s.rows.filter fun i => (s.cols.filter fun j => !c i j).isEmpty
def empt (c : Pic) (s : LS) : List Nat := s.cols.filter fun j => (s.rows.filter fun i => c i j).isEmpty
def lawStep (h : Nat) (c : Pic) (s : LS) : LS :=
  if full c s ≠ [] then ⟨s.rows.filter fun i => !decide (i ∈ full c s), s.cols, s.found ++ [full c s]⟩
  else if empt c s ≠ [] then ⟨s.rows, s.cols.filter fun j => !decide (j ∈ empt c s), s.found ++ [(empt c s).map fun j => h + j]⟩
  else s
def lawRun (h : Nat) (c : Pic) : Nat → LS → LS
  | 0, s => s
  | n + 1, s => lawRun h c n (lawStep h c s)
theorem lawRun_succ (h : Nat) (c : Pic) : ∀ (n : Nat) (s : LS), lawRun h c (n + 1) s = lawStep h c (lawRun h c n s)
  | 0, _ => rfl
  | n + 1, s => by
    show lawRun h c (n + 1) (lawStep h c s) = lawStep h c (lawRun h c n (lawStep h c s))
    exact lawRun_succ h c n _
def lawLayers (h w : Nat) (c : Pic) : List (List Nat) := (lawRun h c (h + w) ⟨List.range h, List.range w, []⟩).found

/-- the lines left, as one list -/
def LS.left (h : Nat) (s : LS) : List Nat := s.rows ++ s.cols.map fun j => h + j
structure LS.Ok (h w : Nat) (s : LS) : Prop where
  r : ∀ i ∈ s.rows, i < h
  c : ∀ j ∈ s.cols, j < w

theorem mem_left {h w : Nat} {s : LS} (o : s.Ok h w) {l : Nat} : l ∈ s.left h ↔ (l < h ∧ l ∈ s.rows) ∨ (h ≤ l ∧ l - h ∈ s.cols) := by
  unfold LS.left
  rw [List.mem_append, List.mem_map]
  constructor
  · rintro (a | ⟨j, hj, rfl⟩)
    · exact .inl ⟨o.r l a, a⟩
    · exact .inr ⟨Nat.le_add_right _ _, by rw [Nat.add_sub_cancel_left]; exact hj⟩
  · rintro (⟨_, a⟩ | ⟨a, b⟩)
    · exact .inl a
    · exact .inr ⟨l - h, b, by omega⟩

theorem sel_row {h w : Nat} {c : Pic} {s : LS} (o : s.Ok h w) {i : Nat} (hi : i ∈ s.rows) :
    (!((leads h w c i).any fun x => decide (x ∈ s.left h))) = (s.cols.filter fun j => !c i j).isEmpty := by
  have hlt := o.r i hi
  rw [Bool.eq_iff_iff, Bool.not_eq_true', List.any_eq_false, List.isEmpty_iff, List.filter_eq_nil_iff]
  unfold leads
  rw [if_pos hlt]
  constructor
  · intro f j hj hc
    refine f (h + j) (List.mem_map.mpr ⟨j, List.mem_filter.mpr ⟨List.mem_range.mpr (o.c j hj), hc⟩, rfl⟩) (decide_eq_true ?_)
    exact (mem_left o).mpr (.inr ⟨Nat.le_add_right _ _, by rw [Nat.add_sub_cancel_left]; exact hj⟩)
  · intro f x hx hd
    obtain ⟨j, hj, rfl⟩ := List.mem_map.mp hx
    have hm := (List.mem_filter.mp hj).2
    rcases (mem_left o).mp (of_decide_eq_true hd) with ⟨a, _⟩ | ⟨_, b⟩
    · omega
    · rw [Nat.add_sub_cancel_left] at b
      exact f j b hm
theorem sel_col {h w : Nat} {c : Pic} {s : LS} (o : s.Ok h w) {j : Nat} (_hj : j ∈ s.cols) :
    (!((leads h w c (h + j)).any fun x => decide (x ∈ s.left h))) = (s.rows.filter fun i => c i j).isEmpty := by
  rw [Bool.eq_iff_iff, Bool.not_eq_true', List.any_eq_false, List.isEmpty_iff, List.filter_eq_nil_iff]
  unfold leads
  rw [if_neg (by omega), Nat.add_sub_cancel_left]
  constructor
  · intro f i hi hc
    exact f i (List.mem_filter.mpr ⟨List.mem_range.mpr (o.r i hi), hc⟩) (decide_eq_true ((mem_left o).mpr (.inl ⟨o.r i hi, hi⟩)))
  · intro f x hx hd
    obtain ⟨h1, h2⟩ := List.mem_filter.mp hx
    have h1 := List.mem_range.mp h1
    rcases (mem_left o).mp (of_decide_eq_true hd) with ⟨_, b⟩ | ⟨a, _⟩
    · exact f x b h2
    · omega
theorem layer_left {h w : Nat} {c : Pic} {s : LS} (o : s.Ok h w) : layer (leads h w c) (s.left h) = full c s ++ (empt c s).map fun j => h + j := by
  unfold layer
  conv => lhs; arg 2; rw [LS.left]
  rw [List.filter_append, List.filter_map]
  congr 1
  · exact List.filter_congr fun i hi => sel_row o hi
  · refine congrArg _ (List.filter_congr fun j hj => ?_)
    exact sel_col o hj
theorem not_both {c : Pic} {s : LS} (h1 : full c s ≠ []) : empt c s = [] := by
  obtain ⟨i, hi⟩ := List.exists_mem_of_ne_nil _ h1
  refine List.filter_eq_nil_iff.mpr fun j hj he => ?_
  obtain ⟨hir, hif⟩ := List.mem_filter.mp hi
  have a := List.filter_eq_nil_iff.mp (List.isEmpty_iff.mp he) i hir
  have b := List.filter_eq_nil_iff.mp (List.isEmpty_iff.mp hif) j hj
  cases hc : c i j with
  | true => exact a hc
  | false => exact b (by rw [hc]; rfl)
theorem full_sub {c : Pic} {s : LS} {i : Nat} (h : i ∈ full c s) : i ∈ s.rows := (List.mem_filter.mp h).1
theorem empt_sub {c : Pic} {s : LS} {j : Nat} (h : j ∈ empt c s) : j ∈ s.cols := (List.mem_filter.mp h).1
theorem lawRun_layers {h w : Nat} {c : Pic} : ∀ (n : Nat) (s : LS), s.Ok h w → (lawRun h c n s).found = s.found ++ layersGo (leads h w c) n (s.left h)
  | 0, s, _ => by
    show s.found = s.found ++ []
    rw [List.append_nil]
  | n + 1, s, o => by
    show (lawRun h c n (lawStep h c s)).found = s.found ++ (if layer (leads h w c) (s.left h) = [] then [] else layer (leads h w c) (s.left h) :: layersGo (leads h w c) n ((s.left h).filter fun l => !decide (l ∈ layer (leads h w c) (s.left h))))
    rw [layer_left o]
    unfold lawStep
    by_cases h1 : full c s = []
    · rw [if_neg (by simpa using h1), h1, List.nil_append]
      by_cases h2 : empt c s = []
      · rw [if_neg (by simpa using h2), h2, List.map_nil, if_pos rfl, List.append_nil]
        have : ∀ n, (lawRun h c n s).found = s.found := by
          intro n
          induction n with
          | zero => rfl
          | succ n ih =>
            show (lawRun h c n (lawStep h c s)).found = s.found
            have e : lawStep h c s = s := by
              unfold lawStep
              rw [if_neg (by simpa using h1), if_neg (by simpa using h2)]
            rw [e]
            exact ih
        exact this n
      · rw [if_pos h2, if_neg (by simpa using h2), lawRun_layers (h := h) (w := w) (c := c) n ⟨s.rows, s.cols.filter fun j => !decide (j ∈ empt c s), s.found ++ [(empt c s).map fun j => h + j]⟩ ⟨o.r, fun j hj => o.c j (List.mem_filter.mp hj).1⟩]
        show s.found ++ [(empt c s).map fun j => h + j] ++ _ = _
        rw [List.append_assoc, List.singleton_append]
        congr 2
        congr 1
        unfold LS.left
        rw [List.filter_append, List.filter_map]
        congr 1
        · symm
          refine List.filter_eq_self.mpr fun i hi => ?_
          rw [Bool.not_eq_true', decide_eq_false_iff_not, List.mem_map]
          rintro ⟨j, _, e⟩
          have := o.r i hi
          omega
        · refine congrArg _ (List.filter_congr fun j hj => ?_)
          show (!decide (j ∈ empt c s)) = !decide (h + j ∈ (empt c s).map fun j => h + j)
          congr 1
          rw [Bool.eq_iff_iff, decide_eq_true_iff, decide_eq_true_iff, List.mem_map]
          constructor
          · intro a
            exact ⟨j, a, rfl⟩
          · rintro ⟨k, hk, e⟩
            have : k = j := by omega
            rw [← this]
            exact hk
    · have h2 := not_both h1
      rw [if_pos h1, h2, List.map_nil, List.append_nil, if_neg h1, lawRun_layers (h := h) (w := w) (c := c) n ⟨s.rows.filter fun i => !decide (i ∈ full c s), s.cols, s.found ++ [full c s]⟩ ⟨fun i hi => o.r i (List.mem_filter.mp hi).1, o.c⟩]
      show s.found ++ [full c s] ++ _ = _
      rw [List.append_assoc, List.singleton_append]
      congr 2
      congr 1
      unfold LS.left
      rw [List.filter_append]
      congr 1
      symm
      refine List.filter_eq_self.mpr fun x hx => ?_
      obtain ⟨j, _, rfl⟩ := List.mem_map.mp hx
      rw [Bool.not_eq_true', decide_eq_false_iff_not]
      intro z
      have := o.r _ (full_sub z)
      omega
theorem range_split (h w : Nat) : List.range (h + w) = List.range h ++ (List.range w).map fun j => h + j := List.range_add
theorem lawLayers_eq (h w : Nat) (c : Pic) : lawLayers h w c = layers h w c := by
  unfold lawLayers layers
  rw [lawRun_layers (w := w) (h + w) ⟨List.range h, List.range w, []⟩ ⟨fun i hi => List.mem_range.mp hi, fun j hj => List.mem_range.mp hj⟩, List.nil_append]
  congr 1
  unfold LS.left
  exact (range_split h w).symm

/-- every layer ascends, and its lines are lines of the board -/
theorem layersGo_sorted {W : Nat → List Nat} : ∀ {n : Nat} {left s : List Nat}, left.Pairwise (· < ·) → s ∈ layersGo W n left → s.Pairwise (· < ·) ∧ ∀ l ∈ s, l ∈ left
  | 0, _, _, _, hm => by simp [layersGo] at hm
  | n + 1, left, s, hp, hm => by
    unfold layersGo at hm
    by_cases h0 : layer W left = []
    · rw [if_pos h0] at hm
      simp at hm
    · rw [if_neg h0] at hm
      rcases List.mem_cons.mp hm with e | hm
      · rw [e]
        exact ⟨hp.filter _, fun l hl => (List.mem_filter.mp hl).1⟩
      · obtain ⟨a, b⟩ := layersGo_sorted (hp.filter _) hm
        exact ⟨a, fun l hl => (List.mem_filter.mp (b l hl)).1⟩
theorem range_sorted (n : Nat) : (List.range n).Pairwise (· < ·) := List.pairwise_lt_range
theorem layers_sorted {h w : Nat} {c : Pic} {s : List Nat} (hs : s ∈ layers h w c) : s.Pairwise (· < ·) ∧ ∀ l ∈ s, l < h + w := by
  obtain ⟨a, b⟩ := layersGo_sorted (range_sorted _) hs
  exact ⟨a, fun l hl => List.mem_range.mp (b l hl)⟩

/-- two ascending lists of the same things are one -/
theorem sorted_one : ∀ {a b : List Nat}, a.Pairwise (· < ·) → b.Pairwise (· < ·) → (∀ x, x ∈ a ↔ x ∈ b) → a = b
  | [], [], _, _, _ => rfl
  | [], y :: b, _, _, h => by
    have := (h y).mpr List.mem_cons_self
    simp at this
  | x :: a, [], _, _, h => by
    have := (h x).mp List.mem_cons_self
    simp at this
  | x :: a, y :: b, ha, hb, h => by
    obtain ⟨ha1, ha2⟩ := List.pairwise_cons.mp ha
    obtain ⟨hb1, hb2⟩ := List.pairwise_cons.mp hb
    have exy : x = y := by
      have h1 := (h x).mp List.mem_cons_self
      have h2 := (h y).mpr List.mem_cons_self
      rcases List.mem_cons.mp h1 with e | h1
      · exact e
      · rcases List.mem_cons.mp h2 with e | h2
        · exact e.symm
        · have := hb1 x h1
          have := ha1 y h2
          omega
    subst exy
    congr 1
    refine sorted_one ha2 hb2 fun z => ⟨fun hz => ?_, fun hz => ?_⟩
    · rcases List.mem_cons.mp ((h z).mp (List.mem_cons_of_mem _ hz)) with e | r
      · have := ha1 z hz
        omega
      · exact r
    · rcases List.mem_cons.mp ((h z).mpr (List.mem_cons_of_mem _ hz)) with e | r
      · have := hb1 z hz
        omega
      · exact r

theorem layersGo_nil {W : Nat → List Nat} {left : List Nat} (h : layer W left = []) : ∀ n, layersGo W n left = []
  | 0 => rfl
  | n + 1 => by
    unfold layersGo
    rw [if_pos h]
theorem layersGo_cons {W : Nat → List Nat} {left : List Nat} (h : layer W left ≠ []) (n : Nat) : layersGo W (n + 1) left = layer W left :: layersGo W n (left.filter fun l => !decide (l ∈ layer W left)) := by
  conv => lhs; unfold layersGo
  rw [if_neg h]
theorem left_less {W : Nat → List Nat} {left : List Nat} (h : layer W left ≠ []) : (left.filter fun l => !decide (l ∈ layer W left)).length < left.length := by
  obtain ⟨x, hx⟩ := List.exists_mem_of_ne_nil _ h
  refine List.length_filter_lt_length_iff_exists.mpr ⟨x, (List.mem_filter.mp hx).1, ?_⟩
  rw [decide_eq_true hx]
  exact Bool.false_ne_true
theorem layersGo_len {W : Nat → List Nat} : ∀ (n : Nat) (left : List Nat), (layersGo W n left).length ≤ n
  | 0, _ => Nat.le_refl _
  | n + 1, left => by
    unfold layersGo
    by_cases h0 : layer W left = []
    · rw [if_pos h0]
      exact Nat.zero_le _
    · rw [if_neg h0, List.length_cons]
      exact Nat.succ_le_succ (layersGo_len n _)
theorem layersGo_size {W : Nat → List Nat} : ∀ {n : Nat} {left s : List Nat}, s ∈ layersGo W n left → s.length ≤ left.length
  | 0, _, _, hm => by simp [layersGo] at hm
  | n + 1, left, s, hm => by
    unfold layersGo at hm
    by_cases h0 : layer W left = []
    · rw [if_pos h0] at hm
      simp at hm
    · rw [if_neg h0] at hm
      rcases List.mem_cons.mp hm with e | hm
      · rw [e]
        exact List.length_filter_le _ _
      · exact Nat.le_trans (layersGo_size hm) (List.length_filter_le _ _)
theorem layers_len (h w : Nat) (c : Pic) : (layers h w c).length ≤ h + w := layersGo_len _ _
theorem layers_size {h w : Nat} {c : Pic} {s : List Nat} (hs : s ∈ layers h w c) : s.length ≤ h + w := by
  have := layersGo_size hs
  rwa [List.length_range] at this

/-! ### least sets -/
def hit (h : Nat) (cell : Nat × Nat) (l : Nat) : Bool := l == cell.1 || l == h + cell.2
/-- the lines of a layer in which a cell of difference lies -/
def needed (h : Nat) (s : List Nat) (left : List (Nat × Nat)) : List Nat := s.filter fun l => left.any fun c => hit h c l
def meets (h : Nat) (cell : Nat × Nat) (s : List Nat) : Bool := decide (cell.1 ∈ s) || decide (h + cell.2 ∈ s)
def rest (h : Nat) (s : List Nat) (left : List (Nat × Nat)) : List (Nat × Nat) := left.filter fun c => !meets h c s
def trimmed (F : List (List Nat × List Nat)) : List (List Nat) :=
  match F.getLast? with
  | none => []
  | some x => F.dropLast.map (·.1) ++ [x.2]
/-- the program's road -/
def leastGo (h : Nat) : List (List Nat) → List (Nat × Nat) → List (List Nat × List Nat) → Option (List (List Nat))
  | [], left, F => if left = [] then some (trimmed F) else none
  | s :: r, left, F => if left = [] then some (trimmed F) else leastGo h r (rest h s left) (F ++ [(s, needed h s left)])
def least (h w : Nat) (s g : Pic) : Option (List (List Nat)) := leastGo h (layers h w g) (differ h w s g) []
def few (h w : Nat) (s g : Pic) : Option Nat := (least h w s g).map fun t => (t.map List.length).sum
/-- the law's -/
def lawGo (h : Nat) : List (List Nat) → List (Nat × Nat) → List Nat → Option (List Nat)
  | [], left, F => if left = [] then some F else none
  | s :: r, left, F => if left = [] then some F else lawGo h r (rest h s left) (F ++ if rest h s left = [] then needed h s left else s)
def lawLeast (h w : Nat) (s g : Pic) : Option (List Nat) := lawGo h (layers h w g) (differ h w s g) []
def lawFew (h w : Nat) (s g : Pic) : Option Nat := (lawLeast h w s g).map List.length

def all1 (F : List (List Nat × List Nat)) : Nat := ((F.map (·.1)).map List.length).sum
theorem trimmed_snoc (F : List (List Nat × List Nat)) (x : List Nat × List Nat) : trimmed (F ++ [x]) = F.map (·.1) ++ [x.2] := by
  unfold trimmed
  rw [List.getLast?_concat]
  show (F ++ [x]).dropLast.map (·.1) ++ [x.2] = _
  rw [List.dropLast_concat]
theorem few_go (h : Nat) : ∀ (L : List (List Nat)) (left : List (Nat × Nat)) (F : List (List Nat × List Nat)) (G : List Nat),
    (left = [] → G.length = ((trimmed F).map List.length).sum) → (left ≠ [] → G.length = all1 F) →
    (lawGo h L left G).map List.length = (leastGo h L left F).map fun t => (t.map List.length).sum
  | [], left, F, G, h1, _ => by
    unfold lawGo leastGo
    by_cases e : left = []
    · rw [if_pos e, if_pos e, Option.map_some, Option.map_some, h1 e]
    · rw [if_neg e, if_neg e, Option.map_none, Option.map_none]
  | s :: r, left, F, G, h1, h2 => by
    unfold lawGo leastGo
    by_cases e : left = []
    · rw [if_pos e, if_pos e, Option.map_some, Option.map_some, h1 e]
    · rw [if_neg e, if_neg e]
      have hG := h2 e
      refine few_go h r _ _ _ (fun e2 => ?_) (fun e2 => ?_)
      · rw [if_pos e2, List.length_append, trimmed_snoc, List.map_append, List.sum_append, hG]
        unfold all1
        simp
      · rw [if_neg e2, List.length_append, hG]
        unfold all1
        rw [List.map_append, List.map_append, List.sum_append]
        simp
theorem lawFew_eq (h w : Nat) (s g : Pic) : lawFew h w s g = few h w s g :=
  few_go h (layers h w g) (differ h w s g) [] [] (fun _ => rfl) fun _ => rfl
theorem differ_self (h w : Nat) (s : Pic) : differ h w s s = [] := by
  unfold differ
  rw [List.flatMap_eq_nil_iff]
  intro i _
  rw [List.map_eq_nil_iff, List.filter_eq_nil_iff]
  intro j _ hne
  simp at hne
theorem few_self (h w : Nat) (s : Pic) : few h w s s = some 0 := by
  unfold few least
  rw [differ_self]
  cases layers h w s <;> rfl
end LP

/-! ## LpCalc -/
/-! A small calculus over HandS: what an expression gives, said as plain data (PyData), in any heap that extends what is seen.
hide S H: the heap H without the addresses S (lists under construction, the law's row). -/
namespace LPW
open PySem L2 Evl

/-! ### data in the abstract heap, by its own objects -/
mutual
inductive Dn (H : Hp) : V → PyData → Prop
  | non : Dn H .non .none
  | bl (b : Bool) : Dn H (.bl b) (.bool b)
  | int (i : Int) : Dn H (.int i) (.int i)
  | str (x : Str) : Dn H (.str x) (.str x)
  | lst {a : Addr} {xs : List V} {ds : List PyData} : H a = some (.lst xs) → DnAll H xs ds → Dn H (.ref a) (.list ds)
  | tup {a : Addr} {xs : List V} {ds : List PyData} : H a = some (.tup xs) → DnAll H xs ds → Dn H (.ref a) (.tuple ds)
inductive DnAll (H : Hp) : List V → List PyData → Prop
  | nil : DnAll H [] []
  | cons {v : V} {vs : List V} {d : PyData} {ds : List PyData} : Dn H v d → DnAll H vs ds → DnAll H (v :: vs) (d :: ds)
end
mutual
theorem Dn.mono {H H' : Hp} (e : Ex H H') : ∀ (d : PyData) (v : V), Dn H v d → Dn H' v d
  | .none, _, h => by cases h; exact .non
  | .bool _, _, h => by cases h; exact .bl _
  | .int _, _, h => by cases h; exact .int _
  | .str _, _, h => by cases h; exact .str _
  | .list ds, _, h => by
    cases h with
    | lst ha hd => exact .lst (e _ _ ha) (DnAll.mono e ds _ hd)
  | .tuple ds, _, h => by
    cases h with
    | tup ha hd => exact .tup (e _ _ ha) (DnAll.mono e ds _ hd)
  | .dict _, _, h => by cases h
theorem DnAll.mono {H H' : Hp} (e : Ex H H') : ∀ (ds : List PyData) (vs : List V), DnAll H vs ds → DnAll H' vs ds
  | [], _, h => by cases h; exact .nil
  | d :: ds, _, h => by
    cases h with
    | cons h1 h2 => exact .cons (Dn.mono e d _ h1) (DnAll.mono e ds _ h2)
end
theorem Dn.up {H H' : Hp} {v : V} {d : PyData} (h : Dn H v d) (e : Ex H H') : Dn H' v d := Dn.mono e d v h
theorem DnAll.up {H H' : Hp} {vs : List V} {ds : List PyData} (h : DnAll H vs ds) (e : Ex H H') : DnAll H' vs ds := DnAll.mono e ds vs h
mutual
theorem Dn.dp {K : PySem.W.Frag} {H : Hp} : ∀ (d : PyData) (v : V), Dn H v d → Dp K H v d
  | .none, _, h => by cases h; exact .non
  | .bool _, _, h => by cases h; exact .bl _
  | .int _, _, h => by cases h; exact .int _
  | .str _, _, h => by cases h; exact .str _
  | .list ds, _, h => by
    cases h with
    | lst ha hd => exact .lst (.inl (.inl ha)) (DnAll.dp ds _ hd)
  | .tuple ds, _, h => by
    cases h with
    | tup ha hd => exact .tup (.inl (.inl ha)) (DnAll.dp ds _ hd)
  | .dict _, _, h => by cases h
theorem DnAll.dp {K : PySem.W.Frag} {H : Hp} : ∀ (ds : List PyData) (vs : List V), DnAll H vs ds → DpAll K H vs ds
  | [], _, h => by cases h; exact .nil
  | d :: ds, _, h => by
    cases h with
    | cons h1 h2 => exact .cons (Dn.dp d _ h1) (DnAll.dp ds _ h2)
end
section
variable {H : Hp} {v : V} {vs : List V} {d : PyData} {ds es : List PyData}
theorem DnAll.len : ∀ {vs : List V} {ds : List PyData}, DnAll H vs ds → vs.length = ds.length
  | [], _, h => by cases h; rfl
  | _ :: vs, _, h => by
    cases h with
    | cons _ t => simp [DnAll.len t]
theorem DnAll.get : ∀ {vs : List V} {ds : List PyData} {i : Nat} {d : PyData}, DnAll H vs ds → ds[i]? = some d → ∃ v, vs[i]? = some v ∧ Dn H v d
  | _, _, i, d, .nil, e => by simp at e
  | _, _, 0, d, .cons h _, e => by
    simp at e
    subst e
    exact ⟨_, rfl, h⟩
  | _, _, i + 1, d, .cons _ t, e => by
    obtain ⟨v, a, b⟩ := DnAll.get (i := i) t (by simpa using e)
    exact ⟨v, by simpa using a, b⟩
theorem DnAll.getV : ∀ {vs : List V} {ds : List PyData} {i : Nat} {v : V}, DnAll H vs ds → vs[i]? = some v → ∃ d, ds[i]? = some d ∧ Dn H v d
  | _, _, i, d, .nil, e => by simp at e
  | _, _, 0, d, .cons h _, e => by
    simp at e
    subst e
    exact ⟨_, rfl, h⟩
  | _, _, i + 1, d, .cons _ t, e => by
    obtain ⟨v, a, b⟩ := DnAll.getV (i := i) t (by simpa using e)
    exact ⟨v, by simpa using a, b⟩
theorem DnAll.app : ∀ {vs : List V} {ds : List PyData} {ws : List V} {es : List PyData}, DnAll H vs ds → DnAll H ws es → DnAll H (vs ++ ws) (ds ++ es)
  | _, _, _, _, .nil, h => h
  | _, _, _, _, .cons h t, h' => .cons h (DnAll.app t h')
theorem DnAll.snoc (h : DnAll H vs ds) (hd : Dn H v d) : DnAll H (vs ++ [v]) (ds ++ [d]) := h.app (.cons hd .nil)
theorem DnAll.drop : ∀ {vs : List V} {ds : List PyData} (n : Nat), DnAll H vs ds → DnAll H (vs.drop n) (ds.drop n)
  | _, _, 0, h => h
  | _, _, _ + 1, .nil => .nil
  | _, _, n + 1, .cons _ t => DnAll.drop n t
theorem DnAll.take : ∀ {vs : List V} {ds : List PyData} (n : Nat), DnAll H vs ds → DnAll H (vs.take n) (ds.take n)
  | _, _, 0, _ => .nil
  | _, _, _ + 1, .nil => .nil
  | _, _, n + 1, .cons h t => .cons h (DnAll.take n t)
theorem DnAll.ints : ∀ {vs : List V} {ns : List Int}, DnAll H vs (ns.map PyData.int) → vs = ns.map V.int
  | _, [], h => by cases h; rfl
  | _, n :: ns, h => by
    cases h with
    | cons a t =>
      cases a
      rw [DnAll.ints t]
      rfl
theorem DnAll.ofInts : ∀ (ns : List Int), DnAll H (ns.map V.int) (ns.map PyData.int)
  | [] => .nil
  | n :: ns => .cons (.int n) (DnAll.ofInts ns)
theorem DnAll.bls : ∀ {vs : List V} {ns : List Bool}, DnAll H vs (ns.map PyData.bool) → vs = ns.map V.bl
  | _, [], h => by cases h; rfl
  | _, n :: ns, h => by
    cases h with
    | cons a t =>
      cases a
      rw [DnAll.bls t]
      rfl
theorem DnAll.strs : ∀ {vs : List V} {ns : List Str}, DnAll H vs (ns.map PyData.str) → vs = ns.map V.str
  | _, [], h => by cases h; rfl
  | _, n :: ns, h => by
    cases h with
    | cons a t =>
      cases a
      rw [DnAll.strs t]
      rfl
end

/-! ### what is hidden -/
def hide (S : List Addr) (H : Hp) : Hp := fun a => if a ∈ S then none else H a
def Tr (S : List Addr) (H : Hp) : Prop := ∀ a ∈ S, ∃ o, H a = some o ∧ ∀ xs, o ≠ .tup xs
section
variable {S : List Addr} {H H' : Hp} {a p D : Addr} {o : HO}
theorem hide_le : Ex (hide S H) H := fun a o h => by
  unfold hide at h
  by_cases m : a ∈ S
  · rw [if_pos m] at h
    cases h
  · rw [if_neg m] at h
    exact h
theorem hide_up (e : Ex H H') : Ex (hide S H) (hide S H') := fun a o h => by
  unfold hide at h ⊢
  by_cases m : a ∈ S
  · rw [if_pos m] at h
    cases h
  · rw [if_neg m] at h ⊢
    exact e a o h
theorem hide_nil : hide [] H = H := by
  funext a
  unfold hide
  rw [if_neg (by simp)]
theorem Tr.nil : Tr [] H := fun _ h => by simp at h
theorem Tr.up (t : Tr S H) (e : Ex H H') : Tr S H' := fun a ha => by
  obtain ⟨o, h1, h2⟩ := t a ha
  exact ⟨o, e a o h1, h2⟩
theorem Tr.not (t : Tr S H) (h : H p = none) : p ∉ S := fun m => by
  obtain ⟨o, h1, _⟩ := t p m
  rw [h] at h1
  cases h1
theorem Tr.notTup (t : Tr S H) {xs : List V} (h : H p = some (.tup xs)) : p ∉ S := fun m => by
  obtain ⟨o, h1, h2⟩ := t p m
  rw [h] at h1
  cases h1
  exact h2 _ rfl
theorem hide_at (h : p ∉ S) : hide S H p = H p := by
  unfold hide
  rw [if_neg h]
theorem hide_new (t : Tr S H) (h : H p = none) : hide S (upd H p o) p = some o := by
  rw [hide_at (t.not h), upd_same]
theorem Tr.cons (t : Tr S H) (h : H D = some o) (hn : ∀ xs, o ≠ .tup xs := by intro _ h; cases h) : Tr (D :: S) H := fun a ha => by
  rcases List.mem_cons.mp ha with e | m
  · rw [e]
    exact ⟨o, h, hn⟩
  · exact t a m
theorem hide_upd : hide (D :: S) (upd H D o) = hide (D :: S) H := by
  funext a
  unfold hide
  by_cases m : a ∈ D :: S
  · rw [if_pos m, if_pos m]
  · rw [if_neg m, if_neg m, upd_ne (fun e => m (by rw [e]; exact List.mem_cons_self))]
/-- what was seen before D came is seen with D hidden -/
theorem hide_open (h : H D = none) (e : Ex H H') : Ex (hide S H) (hide (D :: S) H') := fun a o q => by
  unfold hide at q ⊢
  by_cases m : a ∈ S
  · rw [if_pos m] at q
    cases q
  · rw [if_neg m] at q
    rw [if_neg, e a o q]
    intro z
    rcases List.mem_cons.mp z with z | z
    · rw [z, h] at q
      cases q
    · exact m z
theorem hide_less : Ex (hide (D :: S) H) (hide S H) := fun a o q => by
  unfold hide at q ⊢
  by_cases m : a ∈ D :: S
  · rw [if_pos m] at q
    cases q
  · rw [if_neg m] at q
    rw [if_neg fun z => m (List.mem_cons_of_mem _ z)]
    exact q
end

/-! ### what an expression gives -/
def Den (te : TE) (σ : L2.St) (B : Hp) (d : PyData) : Prop :=
  ∀ S H1, Tr S H1 → Ex B (hide S H1) → ∀ Q : VK, (∀ v H2, Ex H1 H2 → Dn (hide S H2) v d → Q v H2) → te σ H1 Q
def DenA (ta : TA) (σ : L2.St) (B : Hp) (ds : List PyData) : Prop :=
  ∀ S H1, Tr S H1 → Ex B (hide S H1) → ∀ Q : List V → Hp → Prop, (∀ vs H2, Ex H1 H2 → DnAll (hide S H2) vs ds → Q vs H2) → ta σ H1 Q
def Tst (tt : TT) (σ : L2.St) (B : Hp) (b : Bool) : Prop :=
  ∀ S H1, Tr S H1 → Ex B (hide S H1) → ∀ Q : Bool → Hp → Prop, (∀ H2, Ex H1 H2 → Q b H2) → tt σ H1 Q
/-- a two-place operation, a call, by data -/
def RD (r : R2) (da db dz : PyData) : Prop :=
  ∀ S H x y, Tr S H → Dn (hide S H) x da → Dn (hide S H) y db → ∀ Q : VK, (∀ z H2, Ex H H2 → Dn (hide S H2) z dz → Q z H2) → r x y H Q
def RCD (r : List V → Hp → VK → Prop) (ds : List PyData) (dz : PyData) : Prop :=
  ∀ S H vs, Tr S H → DnAll (hide S H) vs ds → ∀ Q : VK, (∀ z H2, Ex H H2 → Dn (hide S H2) z dz → Q z H2) → r vs H Q

section
variable {σ : L2.St} {B B' : Hp} {ta tb tc te : TE} {t u : TT} {d da db dc dz : PyData} {v : V} {r : R2}
theorem Den.up (h : Den te σ B d) (e : Ex B B') : Den te σ B' d := fun S H1 T X Q q => h S H1 T (e.trans X) Q q
theorem Tst.up {b : Bool} (h : Tst t σ B b) (e : Ex B B') : Tst t σ B' b := fun S H1 T X Q q => h S H1 T (e.trans X) Q q
theorem DenA.up {ta : TA} {ds : List PyData} (h : DenA ta σ B ds) (e : Ex B B') : DenA ta σ B' ds := fun S H1 T X Q q => h S H1 T (e.trans X) Q q
theorem Den.to {d' : PyData} (h : Den te σ B d) (e : d = d') : Den te σ B d' := e ▸ h
theorem Tst.to {b b' : Bool} (h : Tst t σ B b) (e : b = b') : Tst t σ B b' := e ▸ h
theorem den_var {i : Nat} (h : σ[i]? = some (some v)) (hd : Dn B v d) : Den (tVar i) σ B d := fun S H1 _ e _ q => ⟨v, h, q v H1 (Ex.refl H1) (hd.up e)⟩
theorem den_int {i : Int} : Den (tC (.int i)) σ B (.int i) := fun _ H1 _ _ _ q => q _ H1 (Ex.refl H1) (.int i)
theorem den_str {x : Str} : Den (tC (.str x)) σ B (.str x) := fun _ H1 _ _ _ q => q _ H1 (Ex.refl H1) (.str x)
theorem den_bl {b : Bool} : Den (tC (.bl b)) σ B (.bool b) := fun _ H1 _ _ _ q => q _ H1 (Ex.refl H1) (.bl b)
theorem den_non : Den (tC .non) σ B .none := fun _ H1 _ _ _ q => q _ H1 (Ex.refl H1) .non
theorem den_op (ha : Den ta σ B da) (hb : Den tb σ B db) (hr : RD r da db dz) : Den (tOp r ta tb) σ B dz := fun S H1 T e Q q =>
  ha S H1 T e _ fun x H2 e2 hx => hb S H2 (T.up e2) (e.trans (hide_up e2)) _ fun y H3 e3 hy =>
    hr S H3 x y ((T.up e2).up e3) (hx.up (hide_up e3)) hy Q fun z H4 e4 hz => q z H4 ((e2.trans e3).trans e4) hz
theorem den_chain {r' : R2} {b1 b2 : Bool} (ha : Den ta σ B da) (hb : Den tb σ B db) (hc : Den tc σ B dc) (hr : RD r da db (.bool b1)) (hr' : RD r' db dc (.bool b2)) :
    Den (tChain r r' ta tb tc) σ B (.bool (b1 && b2)) := fun S H1 T e Q q =>
  ha S H1 T e _ fun x H2 e2 hx => hb S H2 (T.up e2) (e.trans (hide_up e2)) _ fun y H3 e3 hy =>
    hr S H3 x y ((T.up e2).up e3) (hx.up (hide_up e3)) hy _ fun z H4 e4 hz => by
      cases hz
      refine ⟨b1, rfl, ?_⟩
      cases b1 with
      | true =>
        show tc σ H4 _
        have e14 := (e2.trans e3).trans e4
        refine hc S H4 (T.up e14) (e.trans (hide_up e14)) _ fun w H5 e5 hw => ?_
        exact hr' S H5 y w (T.up (e14.trans e5)) (hy.up (hide_up (e4.trans e5))) hw Q fun z H6 e6 hz => q z H6 ((e14.trans e5).trans e6) hz
      | false => exact q _ H4 ((e2.trans e3).trans e4) (.bl false)
theorem den_un {ru : V → Hp → VK → Prop} {i : Int} (f : Int → Int) (ha : Den ta σ B (.int i)) (hr : ru = rU fun i => .int (f i)) : Den (tUn ru ta) σ B (.int (f i)) := fun S H1 T e Q q =>
  ha S H1 T e _ fun x H2 e2 hx => by
    cases hx
    subst hr
    exact ⟨i, rfl, q _ H2 e2 (.int _)⟩
theorem den_andV {a b : Bool} (h1 : Den ta σ B (.bool a)) (h2 : a = true → Den tb σ B (.bool b)) : Den (tAndV ta tb) σ B (.bool (a && b)) := fun S H1 T e Q q =>
  h1 S H1 T e _ fun x H2 e2 hx => by
    cases hx
    refine ⟨a, rfl, ?_⟩
    cases a with
    | true =>
      show tb σ H2 Q
      exact h2 rfl S H2 (T.up e2) (e.trans (hide_up e2)) Q fun v H3 e3 hv => q v H3 (e2.trans e3) hv
    | false =>
      show Q (.bl false) H2
      exact q _ H2 e2 (.bl false)
theorem den_orV {a b : Bool} (h1 : Den ta σ B (.bool a)) (h2 : a = false → Den tb σ B (.bool b)) : Den (tOrV ta tb) σ B (.bool (a || b)) := fun S H1 T e Q q =>
  h1 S H1 T e _ fun x H2 e2 hx => by
    cases hx
    refine ⟨a, rfl, ?_⟩
    cases a with
    | true =>
      show Q (.bl true) H2
      exact q _ H2 e2 (.bl true)
    | false =>
      show tb σ H2 Q
      exact h2 rfl S H2 (T.up e2) (e.trans (hide_up e2)) Q fun v H3 e3 hv => q v H3 (e2.trans e3) hv
theorem den_notV {a : Bool} (h1 : Den ta σ B (.bool a)) : Den (tNotV ta) σ B (.bool (!a)) := fun S H1 T e Q q =>
  h1 S H1 T e _ fun x H2 e2 hx => by
    cases hx
    exact ⟨a, rfl, q _ H2 e2 (.bl _)⟩
theorem tst_test {b : Bool} (h : Den te σ B (.bool b)) : Tst (tTest te) σ B b := fun S H1 T e Q q =>
  h S H1 T e _ fun x H2 e2 hx => by
    cases hx
    exact ⟨b, rfl, q H2 e2⟩
theorem tst_B {b : Bool} (h : Den te σ B (.bool b)) : Tst (tB te) σ B b := fun S H1 T e Q q =>
  h S H1 T e _ fun x H2 e2 hx => by
    cases hx
    exact ⟨b, rfl, q H2 e2⟩
theorem tst_yes : Tst tYes σ B true := fun _ H1 _ _ _ q => q H1 (Ex.refl H1)
theorem tst_and {a b : Bool} (h1 : Tst t σ B a) (h2 : a = true → Tst u σ B b) : Tst (tAnd t u) σ B (a && b) := fun S H1 T e Q q =>
  h1 S H1 T e _ fun H2 e2 => by
    cases a with
    | true =>
      show u σ H2 Q
      exact h2 rfl S H2 (T.up e2) (e.trans (hide_up e2)) Q fun H3 e3 => q H3 (e2.trans e3)
    | false =>
      show Q false H2
      exact q H2 e2
theorem tst_or {a b : Bool} (h1 : Tst t σ B a) (h2 : a = false → Tst u σ B b) : Tst (tOr t u) σ B (a || b) := fun S H1 T e Q q =>
  h1 S H1 T e _ fun H2 e2 => by
    cases a with
    | true =>
      show Q true H2
      exact q H2 e2
    | false =>
      show u σ H2 Q
      exact h2 rfl S H2 (T.up e2) (e.trans (hide_up e2)) Q fun H3 e3 => q H3 (e2.trans e3)
theorem tst_not {a : Bool} (h1 : Tst t σ B a) : Tst (tNot t) σ B (!a) := fun S H1 T e Q q => h1 S H1 T e _ fun H2 e2 => q H2 e2
theorem den_if {b : Bool} (h : Tst t σ B b) (h1 : b = true → Den ta σ B d) (h2 : b = false → Den tb σ B d) : Den (tIf t ta tb) σ B d := fun S H1 T e Q q =>
  h S H1 T e _ fun H2 e2 => by
    cases b with
    | true =>
      show ta σ H2 Q
      exact h1 rfl S H2 (T.up e2) (e.trans (hide_up e2)) Q fun v H3 e3 hv => q v H3 (e2.trans e3) hv
    | false =>
      show tb σ H2 Q
      exact h2 rfl S H2 (T.up e2) (e.trans (hide_up e2)) Q fun v H3 e3 hv => q v H3 (e2.trans e3) hv
theorem dena_nil : DenA tNil σ B [] := fun _ H1 _ _ _ q => q [] H1 (Ex.refl H1) .nil
theorem dena_cons {tr : TA} {ds : List PyData} (h : Den ta σ B d) (hr : DenA tr σ B ds) : DenA (tCons ta tr) σ B (d :: ds) := fun S H1 T e Q q =>
  h S H1 T e _ fun x H2 e2 hx => hr S H2 (T.up e2) (e.trans (hide_up e2)) _ fun xs H3 e3 hxs => q _ H3 (e2.trans e3) (.cons (hx.up (hide_up e3)) hxs)
/-- *t ahead of more -/
theorem dena_star {K : PySem.W.Frag} {tr : TA} {xs ds : List PyData} (h : Den te σ B (.tuple xs)) (hr : DenA tr σ B ds) : DenA (StX.tStar K te tr) σ B (xs ++ ds) := fun S H1 T e Q q =>
  h S H1 T e _ fun x H2 e2 hx => by
    cases hx with
    | @tup a vs _ ha hv =>
      refine ⟨a, vs, rfl, .inl (.inl (.inl (hide_le a _ ha))), ?_⟩
      exact hr S H2 (T.up e2) (e.trans (hide_up e2)) _ fun ys H3 e3 hys => q _ H3 (e2.trans e3) ((hv.up (hide_up e3)).app hys)
theorem den_tup {tr : TA} {ds : List PyData} (h : DenA tr σ B ds) (hl : ds.length ≤ 100000) : Den (tTup tr) σ B (.tuple ds) := fun S H1 T e Q q =>
  h S H1 T e _ fun xs H2 e2 hxs => ⟨by rw [hxs.len]; exact sz_of hl, fun p hp => q _ _ (e2.trans (Ex.new hp)) (.tup (hide_new (T.up e2) hp) (hxs.up (hide_up (Ex.new hp))))⟩
theorem den_lst {tr : TA} {ds : List PyData} (h : DenA tr σ B ds) (hl : ds.length ≤ 100000) : Den (tLst tr) σ B (.list ds) := fun S H1 T e Q q =>
  h S H1 T e _ fun xs H2 e2 hxs => ⟨by rw [hxs.len]; exact sz_of hl, fun p hp => q _ _ (e2.trans (Ex.new hp)) (.lst (hide_new (T.up e2) hp) (hxs.up (hide_up (Ex.new hp))))⟩
theorem den_cb {r : List V → Hp → VK → Prop} {tr : TA} {ds : List PyData} (h : DenA tr σ B ds) (hr : RCD r ds dz) : Den (tCB r tr) σ B dz := fun S H1 T e Q q =>
  h S H1 T e _ fun xs H2 e2 hxs => hr S H2 xs (T.up e2) hxs Q fun z H3 e3 hz => q z H3 (e2.trans e3) hz
end
end LPW

/-! ## LpCalc2 -/
namespace LPW
open PySem L2 Evl

/-! ### data that == can compare -/
def Ok (n : Nat) (d : PyData) : Prop := d.canLay0 = true ∧ d.depth ≤ n
theorem can_all : ∀ {ds : List PyData}, (∀ x ∈ ds, x.canLay0 = true) → PyData.canLayAll0 ds = true
  | [], _ => by simp [PyData.canLayAll0]
  | d :: ds, h => by
    rw [PyData.canLayAll0, h d List.mem_cons_self, can_all fun x hx => h x (List.mem_cons_of_mem _ hx)]
    rfl
theorem dep_all {n : Nat} : ∀ {ds : List PyData}, (∀ x ∈ ds, x.depth ≤ n) → PyData.depthAll ds ≤ n
  | [], _ => by simp [PyData.depthAll]
  | d :: ds, h => by
    rw [PyData.depthAll]
    exact Nat.max_le.mpr ⟨h d List.mem_cons_self, dep_all fun x hx => h x (List.mem_cons_of_mem _ hx)⟩
theorem Ok.list {n : Nat} {ds : List PyData} (h : ∀ x ∈ ds, Ok n x) : Ok (n + 1) (.list ds) :=
  ⟨by rw [PyData.canLay0]; exact can_all fun x hx => (h x hx).1, by rw [PyData.depth]; exact Nat.succ_le_succ (dep_all fun x hx => (h x hx).2)⟩
theorem Ok.tuple {n : Nat} {ds : List PyData} (h : ∀ x ∈ ds, Ok n x) : Ok (n + 1) (.tuple ds) :=
  ⟨by rw [PyData.canLay0]; exact can_all fun x hx => (h x hx).1, by rw [PyData.depth]; exact Nat.succ_le_succ (dep_all fun x hx => (h x hx).2)⟩
theorem Ok.int {n : Nat} {i : Int} : Ok n (.int i) := ⟨by simp [PyData.canLay0], by simp [PyData.depth]⟩
theorem Ok.bool {n : Nat} {i : Bool} : Ok n (.bool i) := ⟨by simp [PyData.canLay0], by simp [PyData.depth]⟩
theorem Ok.none {n : Nat} : Ok n .none := ⟨by simp [PyData.canLay0], by simp [PyData.depth]⟩
theorem Ok.shaped {n : Nat} {d : PyData} (h : Ok n d) (hn : n ≤ 64) : SeqAt.shaped d = true := by
  unfold SeqAt.shaped
  rw [h.1, decide_eq_true (Nat.le_trans h.2 hn)]
  rfl
theorem Ok.ints (n : Nat) (ns : List Int) : ∀ x ∈ ns.map PyData.int, Ok n x := fun x hx => by
  obtain ⟨i, _, rfl⟩ := List.mem_map.mp hx
  exact .int

/-! ### operations by data -/
theorem opR_or {X : Cx} {f : Value → Value → Sem Value} {r r' : R2} (h : OpR X f r) (h' : OpR X f r') : OpR X f (fun x y H Q => r x y H Q ∨ r' x y H Q) := by
  intro pins s σ H x y v u Q I rx ry q
  rcases q with q | q
  · exact h pins s σ H x y v u Q I rx ry q
  · exact h' pins s σ H x y v u Q I rx ry q
def rEqA (K : PySem.W.Frag) : R2 := fun x y H Q => rEq x y H Q ∨ rEqD K x y H Q
def rNeA (K : PySem.W.Frag) : R2 := fun x y H Q => rNe x y H Q ∨ rNeD K x y H Q
theorem op_eqA {X : Cx} (hu : X.A.units + 64 < cLine) : OpR X (compareOp .Eq) (rEqA X.K) := opR_or op_eq (op_eqD hu)
theorem op_neA {X : Cx} (hu : X.A.units + 64 < cLine) : OpR X (compareOp .NotEq) (rNeA X.K) := opR_or op_ne (op_neD hu)
def rAddI : R2 := rI0 fun i j => .int (i + j)
def rAddS : R2 := fun x y H Q => ∃ i j, x = .str i ∧ y = .str j ∧ i.length + j.length ≤ sizeLine ∧ Q (.str (i ++ j)) H
def rAddA : R2 := fun x y H Q => rAddI x y H Q ∨ rAddS x y H Q ∨ rCat x y H Q
theorem op_addA {X : Cx} : OpR X (binaryOp .Add) rAddA := opR_or op_add (opR_or op_add_str op_cat)
def rSub : R2 := rI0 fun i j => .int (i - j)
def rLt : R2 := rI0 fun i j => .bl (decide (i < j))
def rLe : R2 := rI0 fun i j => .bl (decide (i ≤ j))
def rGt : R2 := rI0 fun i j => .bl (decide (j < i))
def rGe : R2 := rI0 fun i j => .bl (decide (j ≤ i))
theorem op_subA {X : Cx} : OpR X (binaryOp .Sub) rSub := op_sub
theorem op_ltA {X : Cx} : OpR X (compareOp .Lt) rLt := op_lt
theorem op_leA {X : Cx} : OpR X (compareOp .LtE) rLe := op_le
theorem op_gtA {X : Cx} : OpR X (compareOp .Gt) rGt := op_gt
theorem op_geA {X : Cx} : OpR X (compareOp .GtE) rGe := op_ge
def rIsN : R2 := fun x y H Q => y = .non ∧ Q (.bl (decide (x = .non))) H
def rNotN : R2 := fun x y H Q => y = .non ∧ Q (.bl (!decide (x = .non))) H
theorem op_isNA {X : Cx} : OpR X (compareOp .Is) rIsN := op_isN
theorem op_notNA {X : Cx} : OpR X (compareOp .IsNot) rNotN := op_notN
section
variable {K : PySem.W.Frag}
theorem rd_addI {i j : Int} : RD rAddA (.int i) (.int j) (.int (i + j)) := fun S H x y _ hx hy Q q => by
  cases hx; cases hy
  exact .inl ⟨i, j, rfl, rfl, q _ H (Ex.refl H) (.int _)⟩
theorem rd_addS {i j : Str} (h : i.length + j.length ≤ sizeLine) : RD rAddA (.str i) (.str j) (.str (i ++ j)) := fun S H x y _ hx hy Q q => by
  cases hx; cases hy
  exact .inr (.inl ⟨i, j, rfl, rfl, h, q _ H (Ex.refl H) (.str _)⟩)
theorem rd_addL {xs ys : List PyData} (h : xs.length + ys.length ≤ 100000) : RD rAddA (.list xs) (.list ys) (.list (xs ++ ys)) := fun S H x y T hx hy Q q => by
  cases hx with
  | @lst a vs _ ha hv =>
    cases hy with
    | @lst b ws _ hb hw =>
      refine .inr (.inr ⟨a, b, vs, ws, rfl, rfl, hide_le a _ ha, hide_le b _ hb, by rw [hv.len, hw.len]; exact sz_of h, fun p hp => ?_⟩)
      exact q _ _ (Ex.new hp) (.lst (hide_new T hp) ((hv.app hw).up (hide_up (Ex.new hp))))
theorem rd_sub {i j : Int} : RD rSub (.int i) (.int j) (.int (i - j)) := fun S H x y _ hx hy Q q => by
  cases hx; cases hy
  exact ⟨i, j, rfl, rfl, q _ H (Ex.refl H) (.int _)⟩
theorem rd_lt {i j : Int} : RD rLt (.int i) (.int j) (.bool (decide (i < j))) := fun S H x y _ hx hy Q q => by
  cases hx; cases hy
  exact ⟨i, j, rfl, rfl, q _ H (Ex.refl H) (.bl _)⟩
theorem rd_le {i j : Int} : RD rLe (.int i) (.int j) (.bool (decide (i ≤ j))) := fun S H x y _ hx hy Q q => by
  cases hx; cases hy
  exact ⟨i, j, rfl, rfl, q _ H (Ex.refl H) (.bl _)⟩
theorem rd_gt {i j : Int} : RD rGt (.int i) (.int j) (.bool (decide (j < i))) := fun S H x y _ hx hy Q q => by
  cases hx; cases hy
  exact ⟨i, j, rfl, rfl, q _ H (Ex.refl H) (.bl _)⟩
theorem rd_ge {i j : Int} : RD rGe (.int i) (.int j) (.bool (decide (j ≤ i))) := fun S H x y _ hx hy Q q => by
  cases hx; cases hy
  exact ⟨i, j, rfl, rfl, q _ H (Ex.refl H) (.bl _)⟩
def isNone : PyData → Bool
  | .none => true
  | _ => false
theorem rd_isN {d : PyData} : RD rIsN d .none (.bool (isNone d)) := fun S H x y _ hx hy Q q => by
  cases hy
  refine ⟨rfl, ?_⟩
  cases hx with
  | non => exact q _ H (Ex.refl H) (.bl true)
  | _ => exact q _ H (Ex.refl H) (.bl false)
theorem rd_notN {d : PyData} : RD rNotN d .none (.bool (!isNone d)) := fun S H x y _ hx hy Q q => by
  cases hy
  refine ⟨rfl, ?_⟩
  cases hx with
  | non => exact q _ H (Ex.refl H) (.bl false)
  | _ => exact q _ H (Ex.refl H) (.bl true)
theorem rd_eqI {i j : Int} : RD (rEqA K) (.int i) (.int j) (.bool (decide (i = j))) := fun S H x y _ hx hy Q q => by
  cases hx; cases hy
  refine .inl ⟨rfl, ?_⟩
  have e : decide (V.int i = V.int j) = decide (i = j) := by simp
  rw [e]
  exact q _ H (Ex.refl H) (.bl _)
theorem rd_neI {i j : Int} : RD (rNeA K) (.int i) (.int j) (.bool (!decide (i = j))) := fun S H x y _ hx hy Q q => by
  cases hx; cases hy
  refine .inl ⟨rfl, ?_⟩
  have e : decide (V.int i = V.int j) = decide (i = j) := by simp
  rw [e]
  exact q _ H (Ex.refl H) (.bl _)
theorem rd_eqS {i j : Str} : RD (rEqA K) (.str i) (.str j) (.bool (decide (i = j))) := fun S H x y _ hx hy Q q => by
  cases hx; cases hy
  refine .inl ⟨rfl, ?_⟩
  have e : decide (V.str i = V.str j) = decide (i = j) := by simp
  rw [e]
  exact q _ H (Ex.refl H) (.bl _)
theorem rd_neS {i j : Str} : RD (rNeA K) (.str i) (.str j) (.bool (!decide (i = j))) := fun S H x y _ hx hy Q q => by
  cases hx; cases hy
  refine .inl ⟨rfl, ?_⟩
  have e : decide (V.str i = V.str j) = decide (i = j) := by simp
  rw [e]
  exact q _ H (Ex.refl H) (.bl _)
theorem rd_eqB {i j : Bool} : RD (rEqA K) (.bool i) (.bool j) (.bool (decide (i = j))) := fun S H x y _ hx hy Q q => by
  cases hx; cases hy
  refine .inl ⟨rfl, ?_⟩
  have e : decide (V.bl i = V.bl j) = decide (i = j) := by simp
  rw [e]
  exact q _ H (Ex.refl H) (.bl _)
theorem rd_neB {i j : Bool} : RD (rNeA K) (.bool i) (.bool j) (.bool (!decide (i = j))) := fun S H x y _ hx hy Q q => by
  cases hx; cases hy
  refine .inl ⟨rfl, ?_⟩
  have e : decide (V.bl i = V.bl j) = decide (i = j) := by simp
  rw [e]
  exact q _ H (Ex.refl H) (.bl _)
theorem rd_eqN : RD (rEqA K) .none .none (.bool true) := fun S H x y _ hx hy Q q => by
  cases hx; cases hy
  exact .inl ⟨rfl, q _ H (Ex.refl H) (.bl _)⟩
theorem eqv_nil (ds : List PyData) : PyData.eqv (.list ds) (.list []) = ds.isEmpty := by
  cases ds <;> simp [PyData.eqv, PyData.eqvAll]
theorem rd_eqL {n : Nat} {ds : List PyData} (h : Ok n (.list ds)) (hn : n ≤ 64) : RD (rEqA K) (.list ds) (.list []) (.bool ds.isEmpty) := fun S H x y _ hx hy Q q => by
  refine .inr ⟨.list ds, .list [], (hx.up hide_le).dp, (hy.up hide_le).dp, h.shaped hn, by decide, ?_⟩
  rw [eqv_nil]
  exact q _ H (Ex.refl H) (.bl _)
theorem rd_neL {n : Nat} {ds : List PyData} (h : Ok n (.list ds)) (hn : n ≤ 64) : RD (rNeA K) (.list ds) (.list []) (.bool (!ds.isEmpty)) := fun S H x y _ hx hy Q q => by
  refine .inr ⟨.list ds, .list [], (hx.up hide_le).dp, (hy.up hide_le).dp, h.shaped hn, by decide, ?_⟩
  rw [eqv_nil]
  exact q _ H (Ex.refl H) (.bl _)
/-- an item -/
theorem rd_ixL {ds : List PyData} {j : Nat} {d : PyData} (h : ds[j]? = some d) : RD (rIx K) (.list ds) (.int j) d := fun S H x y _ hx hy Q q => by
  cases hy
  cases hx with
  | @lst a vs _ ha hv =>
    obtain ⟨v, h1, h2⟩ := hv.get h
    exact .inl ⟨a, vs, j, v, rfl, rfl, .inl (.inl (hide_le a _ ha)), atI_nat h1, q v H (Ex.refl H) h2⟩
theorem rd_ixT {ds : List PyData} {j : Nat} {d : PyData} (h : ds[j]? = some d) : RD (rIx K) (.tuple ds) (.int j) d := fun S H x y _ hx hy Q q => by
  cases hy
  cases hx with
  | @tup a vs _ ha hv =>
    obtain ⟨v, h1, h2⟩ := hv.get h
    exact .inr (.inl ⟨a, vs, j, v, rfl, rfl, .inl (.inl (hide_le a _ ha)), atI_nat h1, q v H (Ex.refl H) h2⟩)
theorem DnAll.last {H : Hp} : ∀ {vs : List V} {ds : List PyData} {d : PyData}, DnAll H vs (ds ++ [d]) → ∃ ws v, vs = ws ++ [v] ∧ DnAll H ws ds ∧ Dn H v d
  | _, [], _, .cons h .nil => ⟨[], _, rfl, .nil, h⟩
  | _, _ :: ds, _, .cons h t => by
    obtain ⟨ws, v, e, a, b⟩ := DnAll.last t
    exact ⟨_ :: ws, v, by rw [e]; rfl, .cons h a, b⟩
theorem rd_ixLast {ds : List PyData} {d : PyData} : RD (rIx K) (.list (ds ++ [d])) (.int (-1)) d := fun S H x y _ hx hy Q q => by
  cases hy
  cases hx with
  | @lst a vs _ ha hv =>
    obtain ⟨ws, v, rfl, _, h2⟩ := hv.last
    exact .inl ⟨a, _, -1, v, rfl, rfl, .inl (.inl (hide_le a _ ha)), atI_last _ _, q v H (Ex.refl H) h2⟩
theorem rd_ixLastT {ds : List PyData} {d : PyData} : RD (rIx K) (.tuple (ds ++ [d])) (.int (-1)) d := fun S H x y _ hx hy Q q => by
  cases hy
  cases hx with
  | @tup a vs _ ha hv =>
    obtain ⟨ws, v, rfl, _, h2⟩ := hv.last
    exact .inr (.inl ⟨a, _, -1, v, rfl, rfl, .inl (.inl (hide_le a _ ha)), atI_last _ _, q v H (Ex.refl H) h2⟩)
theorem rd_ixS {z : Str} {j c : Nat} (hz : z.length ≤ 100000) (h : z.cps.toList[j]? = some c) : RD (rIx K) (.str z) (.int j) (.str ⟨#[c]⟩) := fun S H x y _ hx hy Q q => by
  cases hy
  cases hx
  exact .inr (.inr ⟨z, j, c, rfl, rfl, sz_of hz, atI_nat h, q _ H (Ex.refl H) (.str _)⟩)
/-- in, not in: flat data -/
def flatD : PyData → Bool
  | .none | .bool _ | .int _ | .str _ => true
  | _ => false
theorem flat_of {H : Hp} {v : V} {d : PyData} (h : Dn H v d) (hf : flatD d = true) : flatV v = true := by
  cases h with
  | lst _ _ => exact absurd hf (by simp [flatD])
  | tup _ _ => exact absurd hf (by simp [flatD])
  | _ => rfl
theorem flat_all {H : Hp} : ∀ {vs : List V} {ds : List PyData}, DnAll H vs ds → ds.all flatD = true → vs.all flatV = true
  | _, _, .nil, _ => rfl
  | _, _, .cons h t, hf => by
    simp only [List.all_cons, Bool.and_eq_true] at hf ⊢
    exact ⟨flat_of h hf.1, flat_all t hf.2⟩
theorem eqV_eqv {H : Hp} {v w : V} {d e : PyData} (h : Dn H v d) (h' : Dn H w e) (hf : flatD d = true) (hf' : flatD e = true) : eqV v w = PyData.eqv d e := by
  cases h <;> cases h' <;> first
    | rfl
    | exact absurd hf (by simp [flatD])
    | exact absurd hf' (by simp [flatD])
    | simp only [eqV, PyData.eqv]
def inD (d : PyData) (ds : List PyData) : Bool := ds.any fun e => PyData.eqv e d
theorem inV_inD {H : Hp} {v : V} {d : PyData} (h : Dn H v d) (hf : flatD d = true) : ∀ {vs : List V} {ds : List PyData}, DnAll H vs ds → ds.all flatD = true → inV v vs = inD d ds
  | _, _, .nil, _ => rfl
  | _, _, .cons h1 t, hf1 => by
    simp only [List.all_cons, Bool.and_eq_true] at hf1
    have ih := inV_inD h hf t hf1.2
    unfold inV inD at ih ⊢
    rw [List.any_cons, List.any_cons, ih, eqV_eqv h1 h hf1.1 hf]
theorem rd_inL {ds : List PyData} {d : PyData} {neg : Bool} (h1 : flatD d = true) (h2 : ds.all flatD = true) : RD (rIn K neg) d (.list ds) (.bool (if neg then !inD d ds else inD d ds)) := fun S H x y _ hx hy Q q => by
  cases hy with
  | @lst a vs _ ha hv =>
    refine ⟨a, vs, rfl, .inl (.inl (.inl (hide_le a _ ha))), flat_of hx h1, flat_all hv h2, ?_⟩
    rw [inV_inD hx h1 hv h2]
    exact q _ H (Ex.refl H) (.bl _)
theorem rd_inT {ds : List PyData} {d : PyData} {neg : Bool} (h1 : flatD d = true) (h2 : ds.all flatD = true) : RD (rIn K neg) d (.tuple ds) (.bool (if neg then !inD d ds else inD d ds)) := fun S H x y _ hx hy Q q => by
  cases hy with
  | @tup a vs _ ha hv =>
    refine ⟨a, vs, rfl, .inr (.inl (.inl (hide_le a _ ha))), flat_of hx h1, flat_all hv h2, ?_⟩
    rw [inV_inD hx h1 hv h2]
    exact q _ H (Ex.refl H) (.bl _)
theorem inD_ints (n : Int) : ∀ ns : List Int, inD (.int n) (ns.map PyData.int) = decide (n ∈ ns)
  | [] => by simp [inD]
  | m :: ns => by
    have ih := inD_ints n ns
    unfold inD at ih ⊢
    rw [List.map_cons, List.any_cons, ih, Bool.eq_iff_iff]
    simp only [PyData.eqv, Bool.or_eq_true, beq_iff_eq, decide_eq_true_eq, List.mem_cons]
    exact or_congr ⟨Eq.symm, Eq.symm⟩ Iff.rfl
theorem flat_ints (ns : List Int) : (ns.map PyData.int).all flatD = true := by
  rw [List.all_eq_true]
  intro x hx
  obtain ⟨i, _, rfl⟩ := List.mem_map.mp hx
  rfl

/-! ### calls of built-ins by data -/
def rLenA (K : PySem.W.Frag) : List V → Hp → VK → Prop := fun xs H Q => ∃ x n, xs = [x] ∧ LenV K x H n ∧ Q (.int n) H
theorem cr_lenA {X : Cx} : CallR X (.builtin "len") (rLenA X.K) := call_len
theorem rc_lenL {ds : List PyData} : RCD (rLenA K) [.list ds] (.int ds.length) := fun S H vs _ hv Q q => by
  cases hv with
  | cons h t =>
    cases t
    cases h with
    | @lst a xs _ ha hx =>
      refine ⟨.ref a, xs.length, rfl, .inl ⟨xs, .inl (.inl (hide_le a _ ha)), rfl⟩, ?_⟩
      rw [hx.len]
      exact q _ H (Ex.refl H) (.int _)
theorem rc_lenT {ds : List PyData} : RCD (rLenA K) [.tuple ds] (.int ds.length) := fun S H vs _ hv Q q => by
  cases hv with
  | cons h t =>
    cases t
    cases h with
    | @tup a xs _ ha hx =>
      refine ⟨.ref a, xs.length, rfl, .inr ⟨xs, .inl (.inl (hide_le a _ ha)), rfl⟩, ?_⟩
      rw [hx.len]
      exact q _ H (Ex.refl H) (.int _)
theorem rc_lenS {z : Str} (h : z.length ≤ 100000) : RCD (rLenA K) [.str z] (.int z.length) := fun S H vs _ hv Q q => by
  cases hv with
  | cons hz t =>
    cases t
    cases hz
    exact ⟨.str z, z.length, rfl, ⟨sz_of h, rfl⟩, q _ H (Ex.refl H) (.int _)⟩
theorem rc_all {bs : List Bool} : RCD (rAll K) [.list (bs.map PyData.bool)] (.bool (bs.all id)) := fun S H vs _ hv Q q => by
  cases hv with
  | cons h t =>
    cases t
    cases h with
    | @lst a xs _ ha hx =>
      have e := hx.bls
      subst e
      exact ⟨a, bs, rfl, .inl (.inl (hide_le a _ ha)), q _ H (Ex.refl H) (.bl _)⟩
theorem rc_any {bs : List Bool} : RCD (rAny K) [.list (bs.map PyData.bool)] (.bool (bs.any id)) := fun S H vs _ hv Q q => by
  cases hv with
  | cons h t =>
    cases t
    cases h with
    | @lst a xs _ ha hx =>
      have e := hx.bls
      subst e
      exact ⟨a, bs, rfl, .inl (.inl (hide_le a _ ha)), q _ H (Ex.refl H) (.bl _)⟩
theorem rc_sum {ns : List Int} : RCD (rSum K) [.list (ns.map PyData.int)] (.int ns.sum) := fun S H vs _ hv Q q => by
  cases hv with
  | cons h t =>
    cases t
    cases h with
    | @lst a xs _ ha hx =>
      have e := hx.ints
      subst e
      exact ⟨a, ns, rfl, .inl (.inl (hide_le a _ ha)), q _ H (Ex.refl H) (.int _)⟩
def rListA (K : PySem.W.Frag) : List V → Hp → VK → Prop := fun xs H Q => ∃ p ys, xs = [.ref p] ∧ (SqL K H p ys ∨ SqT K H p ys) ∧ ∀ l, H l = none → Q (.ref l) (upd H l (.lst ys))
theorem cr_listA {X : Cx} : CallR X (.type "list") (rListA X.K) := call_list_of
theorem rc_listL {ds : List PyData} : RCD (rListA K) [.list ds] (.list ds) := fun S H vs T hv Q q => by
  cases hv with
  | cons h t =>
    cases t
    cases h with
    | @lst a xs _ ha hx =>
      exact ⟨a, xs, rfl, .inl (.inl (.inl (hide_le a _ ha))), fun l hl => q _ _ (Ex.new hl) (.lst (hide_new T hl) (hx.up (hide_up (Ex.new hl))))⟩
def rTupA (K : PySem.W.Frag) : List V → Hp → VK → Prop := fun xs H Q => ∃ p ys, xs = [.ref p] ∧ ((SqL K H p ys ∧ ∀ l, H l = none → Q (.ref l) (upd H l (.tup ys))) ∨ (SqT K H p ys ∧ Q (.ref p) H))
theorem cr_tupA {X : Cx} : CallR X (.type "tuple") (rTupA X.K) := call_tuple_of
theorem rc_tupL {ds : List PyData} : RCD (rTupA K) [.list ds] (.tuple ds) := fun S H vs T hv Q q => by
  cases hv with
  | cons h t =>
    cases t
    cases h with
    | @lst a xs _ ha hx =>
      exact ⟨a, xs, rfl, .inl ⟨.inl (.inl (hide_le a _ ha)), fun l hl => q _ _ (Ex.new hl) (.tup (hide_new T hl) (hx.up (hide_up (Ex.new hl))))⟩⟩
end
end LPW

/-! ## LpCalc3 -/
namespace LPW
open PySem PySem.Spec PyProof.Rows L2 Evl

/-! ### what is walked, by data -/
/-- what an iterator gives at turn i, seen with S' hidden -/
def YD (S : List Addr) (H2 : Hp) (ds : List PyData) : Nat → Hp → V → Hp → Prop := fun i H v H' =>
  Ex H H' ∧ ∀ S', Tr S' H → Ex (hide S H2) (hide S' H) → ∀ d, ds[i]? = some d → Dn (hide S' H') v d
def ItD (wi : TI) (σ : L2.St) (B : Hp) (ds : List PyData) : Prop :=
  ∀ S H1, Tr S H1 → Ex B (hide S H1) → ∀ R : It → Hp → Prop, (∀ J H2, Ex H1 H2 → Walk J ds.length (fun H' => Ex (hide S H2) H') (YD S H2 ds) → R J H2) → wi σ H1 R
section
variable {K : PySem.W.Frag} {σ : L2.St} {B : Hp} {te : TE} {ta : TA} {ds : List PyData}
theorem wk_list {S : List Addr} {H2 : Hp} {a : Addr} {xs : List V} (ha : hide S H2 a = some (.lst xs)) (hx : DnAll (hide S H2) xs ds) :
    Walk (Itl K a) ds.length (fun H' => Ex (hide S H2) H') (YD S H2 ds) := by
  rw [← hx.len]
  refine ⟨fun i H hi e => ⟨xs, xs[i], .inl (.inl (e a _ ha)), by simp [hi]⟩, fun H e => ⟨xs, .inl (.inl (e a _ ha)), Nat.le_refl _⟩, fun i H v H' hi e y => ?_⟩
  obtain ⟨rfl, y⟩ := y
  refine ⟨Ex.refl _, fun S' T' e' d hd => ?_⟩
  have h1 := y xs (.inl (.inl (e a _ ha)))
  obtain ⟨v', h2, h3⟩ := hx.get hd
  rw [h1] at h2
  cases h2
  exact h3.up e'
theorem wk_tup {S : List Addr} {H2 : Hp} {a : Addr} {xs : List V} (ha : hide S H2 a = some (.tup xs)) (hx : DnAll (hide S H2) xs ds) :
    Walk (Itt K a) ds.length (fun H' => Ex (hide S H2) H') (YD S H2 ds) := by
  rw [← hx.len]
  refine ⟨fun i H hi e => ⟨xs, xs[i], .inl (.inl (e a _ ha)), by simp [hi]⟩, fun H e => ⟨xs, .inl (.inl (e a _ ha)), Nat.le_refl _⟩, fun i H v H' hi e y => ?_⟩
  obtain ⟨rfl, y⟩ := y
  refine ⟨Ex.refl _, fun S' T' e' d hd => ?_⟩
  have h1 := y xs (.inl (.inl (e a _ ha)))
  obtain ⟨v', h2, h3⟩ := hx.get hd
  rw [h1] at h2
  cases h2
  exact h3.up e'
/-- the signs of a text -/
def signs (z : Str) : List PyData := z.cps.toList.map fun c => .str ⟨#[c]⟩
theorem signs_len (z : Str) : (signs z).length = z.cps.size := by
  unfold signs
  rw [List.length_map, Array.length_toList]
theorem wk_str {S : List Addr} {H2 : Hp} {z : Str} : Walk (Its z) (signs z).length (fun H' => Ex (hide S H2) H') (YD S H2 (signs z)) := by
  rw [signs_len]
  refine ⟨fun i H hi e => hi, fun H e => Nat.le_refl _, fun i H v H' hi e y => ?_⟩
  obtain ⟨rfl, c, hc, rfl⟩ := y
  refine ⟨Ex.refl _, fun S' T' e' d hd => ?_⟩
  unfold signs at hd
  rw [List.getElem?_map, Array.getElem?_toList, hc] at hd
  cases hd
  exact .str _
/-- a list, a tuple, a text -/
def iSeq (K : PySem.W.Frag) (te : TE) : TI := fun σ H R => te σ H fun x H1 =>
  (∃ a, x = .ref a ∧ (∃ xs, SqL K H1 a xs) ∧ R (Itl K a) H1) ∨ (∃ a, x = .ref a ∧ (∃ xs, SqT K H1 a xs) ∧ R (Itt K a) H1) ∨ ∃ z, x = .str z ∧ R (Its z) H1
theorem it_list (h : Den te σ B (.list ds)) : ItD (iSeq K te) σ B ds := fun S H1 T e R r => h S H1 T e _ fun v H2 e2 hv => by
  cases hv with
  | @lst a xs _ ha hx => exact .inl ⟨a, rfl, ⟨xs, .inl (.inl (hide_le a _ ha))⟩, r _ H2 e2 (wk_list ha hx)⟩
theorem it_tup (h : Den te σ B (.tuple ds)) : ItD (iSeq K te) σ B ds := fun S H1 T e R r => h S H1 T e _ fun v H2 e2 hv => by
  cases hv with
  | @tup a xs _ ha hx => exact .inr (.inl ⟨a, rfl, ⟨xs, .inl (.inl (hide_le a _ ha))⟩, r _ H2 e2 (wk_tup ha hx)⟩)
theorem it_str {z : Str} (h : Den te σ B (.str z)) : ItD (iSeq K te) σ B (signs z) := fun S H1 T e R r => h S H1 T e _ fun v H2 e2 hv => by
  cases hv
  exact .inr (.inr ⟨z, rfl, r _ H2 e2 wk_str⟩)
def rangeD (n : Nat) : List PyData := (List.range n).map fun (i : Nat) => PyData.int (i : Int)
theorem rangeD_len (n : Nat) : (rangeD n).length = n := by
  unfold rangeD
  rw [List.length_map, List.length_range]
theorem it_range {n : Nat} (h : DenA ta σ B [.int n]) (hn : n ≤ 100000) : ItD (iRng1 ta) σ B (rangeD n) := fun S H1 T e R r => h S H1 T e _ fun vs H2 e2 hv => by
  cases hv with
  | cons h1 t =>
    cases t
    cases h1
    refine ⟨n, rfl, by omega, by omega, r _ H2 e2 ?_⟩
    rw [rangeD_len]
    refine ⟨fun i H hi e => (show i < (n : Int).toNat by omega), fun H e => (show (n : Int).toNat ≤ n by omega), fun i H v H' hi e y => ?_⟩
    obtain ⟨rfl, rfl⟩ := y
    refine ⟨Ex.refl _, fun S' T' e' d hd => ?_⟩
    unfold rangeD at hd
    rw [List.getElem?_map, List.getElem?_range hi] at hd
    cases hd
    rw [Int.zero_add]
    exact .int _
end

/-! ### targets -/
def AsgD (g : TG) (σ : L2.St) (d : PyData) (P : Hp → L2.St → Prop) : Prop :=
  ∀ S H v, Tr S H → Dn (hide S H) v d → ∀ Q : L2.St → Hp → Prop, (∀ σ', P (hide S H) σ' → Q σ' H) → g v σ H Q
theorem asg_name {j : Nat} {σ : L2.St} {d : PyData} : AsgD (gName j) σ d fun B σ' => ∃ x, Dn B x d ∧ σ' = σ.set j (some x) := fun S H v T hv Q q => q _ ⟨v, hv, rfl⟩
theorem asg_pair {K : PySem.W.Frag} {j k : Nat} {σ : L2.St} {d e : PyData} : AsgD (gTup K 2 (gCons (gName j) (gCons (gName k) gNil))) σ (.tuple [d, e]) fun B σ' =>
    ∃ x y, Dn B x d ∧ Dn B y e ∧ σ' = (σ.set j (some x)).set k (some y) := fun S H v T hv Q q => by
  cases hv with
  | @tup a xs _ ha hx =>
    cases hx with
    | @cons x _ _ _ h1 t =>
      cases t with
      | @cons y _ _ _ h2 t =>
        cases t
        exact ⟨a, [x, y], rfl, .inl (.inl (hide_le a _ ha)), rfl, x, [y], rfl, y, [], rfl, rfl, q _ ⟨x, y, h1, h2, rfl⟩⟩

/-! ### comprehensions -/
section
variable {α : Type} {wi : TI} {g : TG} {tt : TT} {te tk tv : TE} {vs : List Nat} {σ : L2.St} {B : Hp}
theorem take_map_snoc {α β : Type} {xs : List α} {p : α → Bool} {f : α → β} {i : Nat} {a : α} (h : xs[i]? = some a) :
    ((xs.take (i + 1)).filter p).map f = if p a = true then ((xs.take i).filter p).map f ++ [f a] else ((xs.take i).filter p).map f := by
  rw [List.take_add_one, h, List.filter_append, List.map_append]
  cases hp : p a with
  | true => simp [hp]
  | false => simp [hp]
theorem den_lc (xs : List α) (enc : α → PyData) (P : α → Hp → L2.St → Prop) (p : α → Bool) (f : α → PyData) (hi : ItD wi σ B (xs.map enc)) (hz : xs.length ≤ 100000)
    (ha : ∀ a ∈ xs, AsgD g (wipe σ vs) (enc a) (P a))
    (hb : ∀ a ∈ xs, ∀ B1 σ1, Ex B B1 → P a B1 σ1 → wipe σ1 vs = wipe σ vs ∧ Tst tt σ1 B1 (p a) ∧ (p a = true → Den te σ1 B1 (f a))) :
    Den (tLc wi g tt te vs) σ B (.list ((xs.filter p).map f)) := fun S H1 T e Q q => by
  refine hi S H1 T e _ fun J H2 e2 w D hD => ?_
  rw [List.length_map] at w
  refine lc_it w (fun i H' => Ex H2 H' ∧ ∃ acc, H' D = some (.lst acc) ∧ DnAll (hide (D :: S) H') acc (((xs.take i).filter p).map f)) ⟨Ex.new hD, [], upd_same, .nil⟩ (fun i H' _ h => hide_le.trans h.1) ?_ ?_
  · rintro i x H H' hi ⟨e3, acc, hacc, hd⟩ ⟨e4, y⟩
    have hget : xs[i]? = some xs[i] := List.getElem?_eq_getElem hi
    have hmem : xs[i] ∈ xs := List.getElem_mem hi
    have T3 : Tr (D :: S) H := (T.up (e2.trans e3)).cons hacc
    have hx := y (D :: S) T3 (hide_open hD e3) (enc xs[i]) (by rw [List.getElem?_map, hget]; rfl)
    have eB : Ex B (hide (D :: S) H') := (e.trans (hide_up e2)).trans (hide_open hD (e3.trans e4))
    refine ha _ hmem (D :: S) H' x (T3.up e4) hx _ fun σ' hP => ?_
    obtain ⟨hw, ht, he⟩ := hb _ hmem _ σ' eB hP
    refine ⟨hw, ht (D :: S) H' (T3.up e4) (Ex.refl _) _ fun H3 e5 => ?_⟩
    have hts := take_map_snoc (p := p) (f := f) hget
    cases hp : p xs[i] with
    | false =>
      rw [hp, if_neg Bool.false_ne_true] at hts
      rw [if_neg Bool.false_ne_true]
      refine ⟨(e3.trans e4).trans e5, acc, (e4.trans e5) D _ hacc, ?_⟩
      rw [hts]
      exact hd.up (hide_up (e4.trans e5))
    | true =>
      rw [hp, if_pos rfl] at hts
      rw [if_pos rfl]
      refine he hp (D :: S) H3 ((T3.up e4).up e5) (hide_up e5) _ fun z H4 e6 hz' => ?_
      have e46 := (e4.trans e5).trans e6
      refine ⟨acc, e46 D _ hacc, ?_, Ex.mut (e3.trans e46) hD, acc ++ [z], upd_same, ?_⟩
      · have hl := hd.len
        rw [hl, List.length_map]
        have h1 := List.length_filter_le p (xs.take i)
        rw [List.length_take] at h1
        exact sz_lt (by omega)
      · rw [hide_upd, hts]
        exact (hd.up (hide_up e46)).snoc hz'
  · rintro H' ⟨e3, acc, hacc, hd⟩
    rw [List.take_length] at hd
    refine q _ H' (e2.trans e3) (.lst ?_ (hd.up hide_less))
    rw [hide_at ((T.up e2).not hD)]
    exact hacc
/-- without a test -/
theorem den_lcM (xs : List α) (enc : α → PyData) (P : α → Hp → L2.St → Prop) (f : α → PyData) (hi : ItD wi σ B (xs.map enc)) (hz : xs.length ≤ 100000)
    (ha : ∀ a ∈ xs, AsgD g (wipe σ vs) (enc a) (P a))
    (hb : ∀ a ∈ xs, ∀ B1 σ1, Ex B B1 → P a B1 σ1 → wipe σ1 vs = wipe σ vs ∧ Den te σ1 B1 (f a)) :
    Den (tLc wi g tYes te vs) σ B (.list (xs.map f)) := by
  have h := den_lc (tt := tYes) xs enc P (fun _ => true) f hi hz ha fun a m B1 σ1 e hp => ⟨(hb a m B1 σ1 e hp).1, tst_yes, fun _ => (hb a m B1 σ1 e hp).2⟩
  rw [List.filter_eq_self.mpr fun _ _ => rfl] at h
  exact h
end

/-! ### promises of defs that change nothing -/
def SpR (R : List PyData → PyData → Prop) : Sp := fun vs H Q _ => ∃ S ds d, Tr S H ∧ DnAll (hide S H) vs ds ∧ R ds d ∧ ∀ v H', Ex H H' → Dn (hide S H') v d → Q v H'
/-- a def of the text, by its name: where it stands, how it binds, its promise -/
def Prom (P : Program) (w : World) (K : PySem.W.Frag) (mg : Str → Option Value) (base : Heap) (x : Str) (ps : List Str) (k : Nat) (sp : Sp) : Prop :=
  ∃ f fd, mg x = some (.ref f) ∧ PySem.W.keepIn K (.ref f) = true ∧ Binds K fd ps [] ∧ FnOk P w K mg base CX0 k f fd ps sp
section
variable {X : Cx} {x : Str} {ps : List Str} {k : Nat} {sp : Sp}
theorem pe_callP {e : Expr} {es : List Expr} {p pos : Pos} {t : TA} (h : Prom X.prog X.w X.K X.mg X.base x ps k sp) (hr : Room k X.A) (hg : Gl X x) (ha : PA X (e :: es) t)
    (hdb : (x == ("__debug__" : Str)) = false := by decide) (he : starEach (e :: es) X.env = (false, eval e X.env) :: starEach es X.env := by rfl) (hpl : (backTo pos (starEach es X.env)).any (·.1) = false := by rfl) :
    PE X (.Call (.Name x p) (e :: es) [] pos) (tCall sp [] E0 t) := by
  obtain ⟨f, fd, hm, hk, hb, F⟩ := h
  exact pe_call F hr hg hm hk hb .nil pass0 ha hdb he hpl
end
theorem den_call {R : List PyData → PyData → Prop} {ta : TA} {σ : L2.St} {B : Hp} {ds : List PyData} {d : PyData} {E : XK} (h : DenA ta σ B ds) (hR : R ds d) : Den (tCall (SpR R) [] E ta) σ B d := fun S H1 T e Q q =>
  h S H1 T e _ fun vs H2 e2 hv => by
    show SpR R (vs ++ []) H2 Q E
    rw [List.append_nil]
    exact ⟨S, ds, d, T.up e2, hv, hR, fun v H' e3 hv' => q v H' (e2.trans e3) hv'⟩

/-! ### statements, S hidden -/
section
variable {K : PySem.W.Frag} {σ : L2.St} {B H : Hp} {S : List Addr} {te ta tb : TE} {t : TT} {tu tw tz : TS} {D : Ends} {d : PyData} {g : TG}
theorem s_asgD {P : Hp → L2.St → Prop} (T : Tr S H) (e : Ex B (hide S H)) (h : Den te σ B d) (hg : AsgD g σ d P) (k : ∀ σ' H1, Ex H H1 → P (hide S H1) σ' → D.nx σ' H1) : tAsg te g D σ H :=
  h S H T e _ fun v H1 e1 hv => hg S H1 v (T.up e1) hv _ fun σ' hP => k σ' H1 e1 hP
theorem q_asgD {P : Hp → L2.St → Prop} (T : Tr S H) (e : Ex B (hide S H)) (h : Den te σ B d) (hg : AsgD g σ d P) (k : ∀ σ' H1, Ex H H1 → P (hide S H1) σ' → tz D σ' H1) : tSeq (tAsg te g) tz D σ H :=
  s_asgD (D := { D with nx := tz D }) T e h hg k
theorem q_setD {i : Nat} (T : Tr S H) (e : Ex B (hide S H)) (h : Den te σ B d) (k : ∀ x H1, Ex H H1 → Dn (hide S H1) x d → tz D (σ.set i (some x)) H1) : tSeq (tAsg te (gName i)) tz D σ H :=
  h S H T e _ fun v H1 e1 hv => k v H1 e1 hv
theorem s_setD {i : Nat} (T : Tr S H) (e : Ex B (hide S H)) (h : Den te σ B d) (k : ∀ x H1, Ex H H1 → Dn (hide S H1) x d → D.nx (σ.set i (some x)) H1) : tAsg te (gName i) D σ H :=
  h S H T e _ fun v H1 e1 hv => k v H1 e1 hv
theorem s_retD (T : Tr S H) (e : Ex B (hide S H)) (h : Den te σ B d) (k : ∀ x H1, Ex H H1 → Dn (hide S H1) x d → D.rt x H1) : tRet te D σ H :=
  h S H T e _ fun v H1 e1 hv => k v H1 e1 hv
theorem q_ifD {b : Bool} (T : Tr S H) (e : Ex B (hide S H)) (h : Tst t σ B b) (h1 : b = true → ∀ H1, Ex H H1 → tu { D with nx := tz D } σ H1) (h2 : b = false → ∀ H1, Ex H H1 → tw { D with nx := tz D } σ H1) : tSeq (tIfS t tu tw) tz D σ H :=
  h S H T e _ fun H1 e1 => by
    cases b with
    | true =>
      show tu { D with nx := tz D } σ H1
      exact h1 rfl H1 e1
    | false =>
      show tw { D with nx := tz D } σ H1
      exact h2 rfl H1 e1
theorem s_ifD {b : Bool} (T : Tr S H) (e : Ex B (hide S H)) (h : Tst t σ B b) (h1 : b = true → ∀ H1, Ex H H1 → tu D σ H1) (h2 : b = false → ∀ H1, Ex H H1 → tw D σ H1) : tIfS t tu tw D σ H :=
  h S H T e _ fun H1 e1 => by
    cases b with
    | true =>
      show tu D σ H1
      exact h1 rfl H1 e1
    | false =>
      show tw D σ H1
      exact h2 rfl H1 e1
/-- an if without else -/
theorem q_whenD {b : Bool} (T : Tr S H) (e : Ex B (hide S H)) (h : Tst t σ B b) (h1 : b = true → ∀ H1, Ex H H1 → tu { D with nx := tz D } σ H1) (h2 : b = false → ∀ H1, Ex H H1 → tz D σ H1) : tSeq (tIfS t tu tNext) tz D σ H := q_ifD T e h h1 h2
theorem s_whenD {b : Bool} (T : Tr S H) (e : Ex B (hide S H)) (h : Tst t σ B b) (h1 : b = true → ∀ H1, Ex H H1 → tu D σ H1) (h2 : b = false → ∀ H1, Ex H H1 → D.nx σ H1) : tIfS t tu tNext D σ H := s_ifD T e h h1 h2
/-- an if that never goes in, and has no else -/
theorem q_skip (T : Tr S H) (e : Ex B (hide S H)) (h : Tst t σ B false) (k : ∀ H1, Ex H H1 → tz D σ H1) : tSeq (tIfS t tu tNext) tz D σ H :=
  q_ifD T e h (fun z => nomatch z) fun _ H1 e1 => k H1 e1
theorem s_skip (T : Tr S H) (e : Ex B (hide S H)) (h : Tst t σ B false) (k : ∀ H1, Ex H H1 → D.nx σ H1) : tIfS t tu tNext D σ H :=
  s_ifD T e h (fun z => nomatch z) fun _ H1 e1 => k H1 e1
theorem q_dropD (T : Tr S H) (e : Ex B (hide S H)) (h : Den te σ B d) (k : ∀ H1, Ex H H1 → tz D σ H1) : tSeq (tDrop te) tz D σ H :=
  h S H T e _ fun v H1 e1 hv => k H1 e1
theorem s_dropD (T : Tr S H) (e : Ex B (hide S H)) (h : Den te σ B d) (k : ∀ H1, Ex H H1 → D.nx σ H1) : tDrop te D σ H :=
  h S H T e _ fun v H1 e1 hv => k H1 e1
/-- x.append(e): x a list under construction at L, hidden -/
theorem s_appD {i : Nat} {L : Addr} {acc : List V} (T : Tr S H) (e : Ex B (hide S H)) (hi : σ[i]? = some (some (.ref L))) (hL : H L = some (.lst acc)) (hz : acc.length < 100000) (h : Den te σ B d)
    (k : ∀ x H1, Ex H H1 → Dn (hide S H1) x d → D.nx σ (upd H1 L (.lst (acc ++ [x])))) : tDrop (tBM K "list" rAppend (tVar i) (tCons te tNil)) D σ H :=
  ⟨.ref L, hi, .inl ⟨rfl, acc, .inl (.inl hL)⟩, h S H T e _ fun v H1 e1 hv => ⟨L, acc, v, rfl, rfl, e1 L _ hL, sz_lt hz, k v H1 e1 hv⟩⟩
theorem q_appD {i : Nat} {L : Addr} {acc : List V} (T : Tr S H) (e : Ex B (hide S H)) (hi : σ[i]? = some (some (.ref L))) (hL : H L = some (.lst acc)) (hz : acc.length < 100000) (h : Den te σ B d)
    (k : ∀ x H1, Ex H H1 → Dn (hide S H1) x d → tz D σ (upd H1 L (.lst (acc ++ [x])))) : tSeq (tDrop (tBM K "list" rAppend (tVar i) (tCons te tNil))) tz D σ H :=
  s_appD (D := { D with nx := tz D }) T e hi hL hz h k
/-- x = [] -/
theorem q_new {i : Nat} (k : ∀ L, H L = none → tz D (σ.set i (some (.ref L))) (upd H L (.lst []))) : tSeq (tAsg (tLst tNil) (gName i)) tz D σ H :=
  ⟨Nat.zero_le _, fun p hp => k p hp⟩
/-- a loop over data: Pv by the turn, the slots, the heap, from the heap H2 in which the iterator stands -/
theorem s_forD {α : Type} {wi : TI} (xs : List α) (enc : α → PyData) (T : Tr S H) (e : Ex B (hide S H)) (hi : ItD wi σ B (xs.map enc))
    (hl : ∀ H2, Ex H H2 → ∃ Pv : Nat → L2.St → Hp → Prop, Pv 0 σ H2 ∧ (∀ i σ' H', Pv i σ' H' → Ex (hide S H2) H') ∧
      (∀ i a σ' H' v H'', xs[i]? = some a → Pv i σ' H' → Ex H' H'' → (∀ S', Tr S' H' → Ex (hide S H2) (hide S' H') → Dn (hide S' H'') v (enc a)) →
        g v σ' H'' fun σ2 H3 => tu { D with nx := Pv (i + 1), ct := Pv (i + 1), bk := D.nx } σ2 H3) ∧ ∀ σ' H', Pv xs.length σ' H' → D.nx σ' H') : tFor wi g tu D σ H :=
  hi S H T e _ fun J H2 e2 w => by
    rw [List.length_map] at w
    obtain ⟨Pv, h0, hG, hs, hd⟩ := hl H2 e2
    refine for_it w Pv h0 (fun i σ' H' _ p => hG i σ' H' p) (fun i x σ' H1 H' hlt p y => ?_) hd
    have hget : xs[i]? = some xs[i] := List.getElem?_eq_getElem hlt
    exact hs i xs[i] σ' H1 x H' hget p y.1 fun S' T' e' => y.2 S' T' e' _ (by rw [List.getElem?_map, hget]; rfl)
theorem q_forD {α : Type} {wi : TI} (xs : List α) (enc : α → PyData) (T : Tr S H) (e : Ex B (hide S H)) (hi : ItD wi σ B (xs.map enc))
    (hl : ∀ H2, Ex H H2 → ∃ Pv : Nat → L2.St → Hp → Prop, Pv 0 σ H2 ∧ (∀ i σ' H', Pv i σ' H' → Ex (hide S H2) H') ∧
      (∀ i a σ' H' v H'', xs[i]? = some a → Pv i σ' H' → Ex H' H'' → (∀ S', Tr S' H' → Ex (hide S H2) (hide S' H') → Dn (hide S' H'') v (enc a)) →
        g v σ' H'' fun σ2 H3 => tu { D with nx := Pv (i + 1), ct := Pv (i + 1), bk := tz D } σ2 H3) ∧ ∀ σ' H', Pv xs.length σ' H' → tz D σ' H') : tSeq (tFor wi g tu) tz D σ H :=
  s_forD (D := { D with nx := tz D }) xs enc T e hi hl
end

/-! ### a def by its body -/
section
variable {P : Program} {w : World} {K : PySem.W.Frag} {mg : Str → Option Value} {base : Heap}
/-- where a def of the text stands -/
def At (K : PySem.W.Frag) (mg : Str → Option Value) (x : Str) (st : Stmt) (ps : List Str) : Prop := ∃ f fd, mg x = some (.ref f) ∧ Fun K x x st f fd ∧ Binds K fd ps []
theorem prom_of {x : Str} {st : Stmt} {ps N : List Str} {k : Nat} {sp : Sp} (h : At K mg x st ps) (S : FnScope N ps (defScope st)) (len : ∀ vs H Q E, sp vs H Q E → vs.length = ps.length)
    (hbody : ∀ (f : Addr) (cdv : Value) (A : Around) (outer : List Env) (s : Shared) (H : Hp) (vs : List V) (Q : VK) (E : XK), Room k (A.deeper (envOfC x (defScope st) s.heap.objs.size f cdv)) → sp vs H Q E →
      ∃ t, PSs (cxOf CX0 P w K mg base N x (defScope st) f cdv A outer s H E).nox (defBody st) t ∧ t { nx := fun _ H' => Q .non H', rt := Q } (start N vs) H) : Prom P w K mg base x ps (k + 1) sp := by
  obtain ⟨f, fd, hm, F, hb⟩ := h
  exact ⟨f, fd, hm, F.kp, hb, F.ok S len fun cdv A outer s H vs Q E hr hq => hbody f cdv A outer s H vs Q E hr hq⟩
theorem prom_R {x : Str} {st : Stmt} {ps N : List Str} {k : Nat} {R : List PyData → PyData → Prop} (h : At K mg x st ps) (SC : FnScope N ps (defScope st)) (hlen : ∀ ds d, R ds d → ds.length = ps.length)
    (hbody : ∀ (f : Addr) (cdv : Value) (A : Around) (outer : List Env) (s : Shared) (H : Hp) (vs : List V) (Q : VK) (E : XK) (S : List Addr) (ds : List PyData) (d : PyData), Room k (A.deeper (envOfC x (defScope st) s.heap.objs.size f cdv)) →
      Tr S H → DnAll (hide S H) vs ds → R ds d → (∀ v H', Ex H H' → Dn (hide S H') v d → Q v H') →
      ∃ t, PSs (cxOf CX0 P w K mg base N x (defScope st) f cdv A outer s H E).nox (defBody st) t ∧ t { nx := fun _ H' => Q .non H', rt := Q } (start N vs) H) : Prom P w K mg base x ps (k + 1) (SpR R) :=
  prom_of h SC (fun vs H Q E hq => by
    obtain ⟨S, ds, d, _, hv, hR, _⟩ := hq
    rw [hv.len]
    exact hlen ds d hR) fun f cdv A outer s H vs Q E hr hq => by
    obtain ⟨S, ds, d, T, hv, hR, q⟩ := hq
    exact hbody f cdv A outer s H vs Q E S ds d hr T hv hR q
end
end LPW

/-! ## LpEnum -/
/-! enumerate over a list, a tuple, a text, to a target of several names (HandS.Iter has the list alone; its turn and its begin are followed here, over the library's Draws and Begins) -/
namespace LPW
open PySem PySem.Spec PyProof.Rows L2 Evl

theorem meets_enum1 {v : Value} {o : Obj} {H : Heap → Prop} (B : Begins v o H) :
    Meets (Builtin.«enumerate.__new__» ⟨[.type "enumerate", v], []⟩) (fun _ R s => H s.heap ∧
      R (.ok (.ret (.ref (s.heap.push o).objs.size))) { s with heap := (s.heap.push o).push { cls := .type "enumerate", data := .fields #[.none, .bool false, .ref s.heap.objs.size, rawInt 0, .none, .none] } }) :=
  .of_wp fun prog w A R s h => by
    obtain ⟨hp, g, d, tk, os⟩ := s; obtain ⟨h1, h⟩ := h
    have hsub := sub_enumerate
    have q1 : ∀ {A' : Around} {E : Value → Shared → Prop} {Q : Value → Shared → Prop}, Q (.ref hp.objs.size) ⟨hp.push o, g, d, tk, os⟩ → wpAny (model prog w) A' (pyIter v) Q E ⟨hp, g, d, tk, os⟩ :=
      fun q => B.iter prog w _ _ ⟨hp, g, d, tk, os⟩ _ h1 q
    wp_walk using q1
    refine wpAny_stack_any fun st => wpAny_pure ?_
    split
    · rename_i c _ _ _ _ _
      cases (c == Value.type "enumerate")
      · wp_walk using q1
        exact ⟨_, rfl, h⟩
      · wp_walk using q1
        exact ⟨_, rfl, h⟩
    · wp_walk using q1
      exact ⟨_, rfl, h⟩
section
variable {prog : Program} {w : World} {A : Around} {E : Value → Shared → Prop} {s : Shared}
theorem call_enumB {v : Value} {o : Obj} {H : Heap → Prop} {Q : Value → Shared → Prop} (B : Begins v o H) (h1 : H s.heap)
    (h : ∀ h', IsEnum h' (s.heap.objs.size + 1) s.heap.objs.size 0 .none → h'.get? s.heap.objs.size = some o → h'.objs.size = s.heap.objs.size + 2 →
      (∀ b o, s.heap.get? b = some o → h'.get? b = some o) → Q (.ref (s.heap.objs.size + 1)) { s with heap := h' }) :
    wpAny (model prog w) A (call (.type "enumerate") [v]) Q E s := by
  refine callType_new F.called_enumerate (by decide) (F.typeCall_enumerate_1 _) (F.newCall_enumerate_1 _) (fun obj => F.args_object_init_2 obj _) F.entry_enumerate_new
    (meets_enum1 B) ⟨h1, ?_⟩
  have hz : (s.heap.push o).objs.size = s.heap.objs.size + 1 := Heap.size_push ..
  show _ ∧ _
  rw [hz]
  have he : IsEnum ((s.heap.push o).push { cls := .type "enumerate", data := .fields #[.none, .bool false, .ref s.heap.objs.size, rawInt 0, .none, .none] }) (s.heap.objs.size + 1) s.heap.objs.size 0 .none := by
    have := Heap.get?_push_size (s.heap.push o) (o := { cls := .type "enumerate", data := .fields #[.none, .bool false, .ref s.heap.objs.size, rawInt 0, .none, .none] }) rfl
    rw [hz] at this; exact this
  refine ⟨⟨_, he, rfl⟩, h _ he (Heap.get?_push_of_some _ (Heap.get?_push_size _ B.free)) (by rw [Heap.size_push, hz]) fun b o x => Heap.get?_push_of_some _ (Heap.get?_push_of_some _ x)⟩
end
/-- a turn: the item drawn, the pair made, the enumerate object turned -/
theorem enum_item {X : Cx} {pins : List (Addr × Obj)} {σ : L2.St} {H : Hp} {s : Shared} {E : Value → Shared → Prop} {elts : List Expr} {kk : Nat} {tpos : Pos} {e it : Addr} {fp : List Addr} {n i : Nat} {Pd : Nat → Value → Prop} {St : Nat → Heap → Prop} {old : Value} {x : V}
    (I : Inv X pins σ H s) (hf : ∀ b ∈ [e, it], FpOk X pins H b) (he : IsEnum s.heap e it ((i : Nat) : Int) old) (D : Draws X.prog X.w X.A.in1 it fp n Pd St) (hS : St i s.heap) (hlt : i < n) (hne : e ≠ it) (hef : e ∉ fp) (hrel : ∀ u, Pd i u → RelV x u) :
    wpAny (model X.prog X.w) X.A (pyNext (.ref e)) (fun r s1 => ∃ u, r = some u ∧ wpAny (model X.prog X.w) X.A (letOwnedTupleGo (.Tuple elts kk tpos) (.ref e) u) (fun _ s2 => ∃ T, Inv X pins σ (upd H T (.tup [.int (i : Nat), x])) s2 ∧ u = .ref T ∧ H T = none ∧
      (∃ old, IsEnum s2.heap e it (((i + 1 : Nat)) : Int) old) ∧ St (i + 1) s2.heap ∧ ∀ b ∈ [e, it], (upd H T (.tup [.int (i : Nat), x])) b = none) E s1) E s := by
  have hel : e < s.heap.objs.size := Heap.lt_size he
  have hil : it < s.heap.objs.size := by obtain ⟨o, q⟩ := D.live _ _ hS; exact Heap.lt_size q
  refine wpAny_pyNext_enum_itemD D he hS hlt hne hef fun u h' tk hP ho hit' hT hsz hk' => ?_
  have ru := hrel u hP
  refine ⟨_, rfl, wpAny_letOwnedTupleGo_enum (s := { s with heap := h', toks := tk + 1 }) ho fun h'' he' sb => ?_⟩
  have hT2 : h''.get? s.heap.objs.size = some { cls := .type "tuple", data := .seq #[.int i tk, u] } := (sb.2 _ (Nat.ne_of_gt hel)).trans hT
  have new : ObjOk X.prog X.w (upd H s.heap.objs.size (.tup [.int (i : Nat), x])) h'' s.heap.objs.size (.tup [.int (i : Nat), x]) :=
    ⟨by show 2 ≤ sizeLine; decide, [.int i tk, u], .cons ⟨_, rfl⟩ (.cons ru .nil), ⟨_, hT2, rfl, _, rfl⟩⟩
  have I1 : Inv X pins σ (upd H s.heap.objs.size (.tup [.int (i : Nat), x])) { s with heap := h'', toks := tk + 1 } :=
    I.turnedNew (ch := [e, it]) (fun b ob hb q => (sb.2 b (fun z => hb (by simp [z]))).trans (hk' b ob (fun z => hb (by simp [z])) (fun z => hb (by simp [z])) q)) hf (Nat.le_refl _) new
  have hS2 : St (i + 1) h'' := D.frame _ _ _ hit' fun b hb o q => (sb.2 b (fun z => hef (z ▸ hb))).trans q
  refine ⟨s.heap.objs.size, I1, rfl, I.hok.fresh (Nat.le_refl _), ⟨u, ?_⟩, hS2, fun b hb => ?_⟩
  · have e1 : ((i + 1 : Nat) : Int) = (i : Int) + 1 := by omega
    rw [e1]; exact he'
  · have hb' : b < s.heap.objs.size := by
      have e' : b = e ∨ b = it := by simpa using hb
      rcases e' with z | z
      · rw [z]; exact hel
      · rw [z]; exact hil
    rw [upd_ne (Nat.ne_of_lt hb')]
    exact (hf b hb).1
/-- the tuple at a, each item in a new pair -/
def IteT (K : PySem.W.Frag) (a : Addr) : It :=
  ⟨fun i H => ∃ (xs : List V) (x : V), SqT K H a xs ∧ xs[i]? = some x, fun i H v H' => ∃ T x, v = .ref T ∧ H T = none ∧ H' = upd H T (.tup [.int (i : Nat), x]) ∧ ∀ xs, SqT K H a xs → xs[i]? = some x, fun i H => ∃ xs : List V, SqT K H a xs ∧ i = xs.length⟩
theorem tup_ne {h : Heap} {a it : Addr} {i : Nat} {its : Array Value} (p : h.IsTuple a its) (q : h.IsTupleIter it a i) : a ≠ it := by
  rintro rfl
  obtain ⟨o, ho, hc, _⟩ := p
  obtain ⟨o', ho', hc', _⟩ := q
  rw [ho] at ho'
  cases ho'
  rw [hc] at hc'
  injection hc' with z
  exact absurd z (by decide)
theorem turn_enumT {P : Program} {w : World} {K : PySem.W.Frag} {elts : List Expr} {kk : Nat} {tpos : Pos} (a e it : Addr) :
    Turn P w K (.Tuple elts kk tpos) (IteT K a) [e, it] e (fun i h => (∃ old, IsEnum h e it ((i : Nat) : Int) old) ∧ h.IsTupleIter it a i ∧ e ≠ it) where
  mem := by simp
  obj := fun i h st b hb => by
    obtain ⟨⟨old, he⟩, ⟨o, ho, hc, hd⟩, _⟩ := st
    have e' : b = e ∨ b = it := by simpa using hb
    rcases e' with z | z
    · rw [z]; exact ⟨_, he, fun v q => nomatch q⟩
    · rw [z]; exact ⟨o, ho, fun v q => by rw [hd] at q; cases q⟩
  keep := fun i h h' st k => let ⟨⟨old, he⟩, hi, hne⟩ := st; ⟨⟨old, k e (by simp) _ he⟩, hi.at fun o q => k it (by simp) o q, hne⟩
  item := by
    intro X hP hw hK hc i pins s σ H E I hf st hg
    subst hP hw hK
    obtain ⟨⟨old, he⟩, hit, hne⟩ := st
    obtain ⟨xs, x, hq, hx⟩ := hg
    obtain ⟨its, rv, p, hz⟩ := I.tuple hq
    obtain ⟨u, hu, ru⟩ := rv.get hx
    have hia := tup_ne p hit
    have hae : e ≠ a := by
      rintro rfl
      obtain ⟨o, ho, hc, _⟩ := id p
      have he' : s.heap.get? e = some _ := he
      rw [ho] at he'
      cases he'
      injection hc with z
      exact absurd z (by decide)
    have D := Draws.tuple (prog := X.prog) (w := X.w) (A := X.A.in1) (by simpa using I.ok.hd hc) it a hia its.toArray
    have hlen : i < its.toArray.size := by
      have := (List.getElem?_eq_some_iff.mp hu).1
      simpa using this
    refine wpAny_mono (enum_item I hf he D (i := i) (x := x) ⟨hit, p⟩ hlen hne (by simp [hne, hae]) (fun u' hu' => ?_)) (fun r s1 ⟨u', hr, h2⟩ => ⟨u', hr, wpAny_mono h2 (fun _ s2 ⟨T, I2, eu, hT, ho, hS, hn⟩ => ?_) fun _ _ z => z⟩) fun _ _ z => z
    · have : its[i]? = some u' := by simpa using hu'
      rw [hu] at this
      cases this
      exact ru
    · exact ⟨.ref T, _, I2, eu, ⟨T, x, rfl, hT, rfl, fun ys hy => by rw [I.tuple_inj hy hq]; exact hx⟩, ⟨ho, hS.1, hne⟩, hn⟩
  done := by
    intro X hP hw hK hc i pins s σ H E I hf st hg
    subst hP hw hK
    obtain ⟨⟨old, he⟩, hit, hne⟩ := st
    obtain ⟨xs, hq, hx⟩ := hg
    obtain ⟨its, rv, p, hz⟩ := I.tuple hq
    obtain ⟨f0, f1, f2, f3, f4, f5⟩ := hf it (by simp)
    have hl := rv.length
    have D := Draws.tuple (prog := X.prog) (w := X.w) (A := X.A.in1) (by simpa using I.ok.hd hc) it a (tup_ne p hit) its.toArray
    have hi : i = its.toArray.size := by simp; omega
    exact wpAny_pyNext_enum_endD D he (by rw [← hi]; exact ⟨hit, p⟩) fun h' eb => ⟨rfl, I.turned (t' := s.toks) (fun b o hb q => eb b o hb q) f0 f1 f3 f4 f5⟩
  self := fun A i s Q E st h => let ⟨⟨_, he⟩, _⟩ := st; wpAny_pyIter_enum he h
/-- a text, each sign in a new pair -/
def IteS (z : Str) : It :=
  ⟨fun i H => i < z.cps.size, fun i H v H' => ∃ T c, v = .ref T ∧ H T = none ∧ H' = upd H T (.tup [.int (i : Nat), .str ⟨#[c]⟩]) ∧ z.cps[i]? = some c, fun i H => i = z.cps.size⟩
theorem turn_enumS {P : Program} {w : World} {K : PySem.W.Frag} {elts : List Expr} {kk : Nat} {tpos : Pos} (e it : Addr) (z : Str) (t : Tok) :
    Turn P w K (.Tuple elts kk tpos) (IteS z) [e, it] e (fun i h => (∃ old, IsEnum h e it ((i : Nat) : Int) old) ∧ h.IsStrIter it (strIterType z) z t i ∧ e ≠ it) where
  mem := by simp
  obj := fun i h st b hb => by
    obtain ⟨⟨old, he⟩, ⟨o, ho, hc, hd⟩, _⟩ := st
    have e' : b = e ∨ b = it := by simpa using hb
    rcases e' with z | z
    · rw [z]; exact ⟨_, he, fun v q => nomatch q⟩
    · rw [z]; exact ⟨o, ho, fun v q => by rw [hd] at q; cases q⟩
  keep := fun i h h' st k => by
    obtain ⟨⟨old, he⟩, ⟨o, ho, r⟩, hne⟩ := st
    exact ⟨⟨old, k e (by simp) _ he⟩, ⟨o, k it (by simp) o ho, r⟩, hne⟩
  item := by
    intro X hP hw hK hc i pins s σ H E I hf st hg
    subst hP hw hK
    obtain ⟨⟨old, he⟩, hit, hne⟩ := st
    have D := Draws.text (prog := X.prog) (w := X.w) (A := X.A.in1) (by simpa using I.ok.hd hc) it z t
    have hlt : i < z.cps.size := hg
    refine wpAny_mono (enum_item I hf he D (i := i) (x := .str ⟨#[z.cps[i]]⟩) hit hlt hne (by simp [hne]) (fun u' hu' => ?_)) (fun r s1 ⟨u', hr, h2⟩ => ⟨u', hr, wpAny_mono h2 (fun _ s2 ⟨T, I2, eu, hT, ho, hS, hn⟩ => ?_) fun _ _ z => z⟩) fun _ _ z => z
    · obtain ⟨c, u, h1, rfl⟩ := hu'
      rw [Array.getElem?_eq_getElem hlt] at h1
      cases h1
      exact ⟨u, rfl⟩
    · exact ⟨.ref T, _, I2, eu, ⟨T, _, rfl, hT, rfl, Array.getElem?_eq_getElem hlt⟩, ⟨ho, hS, hne⟩, hn⟩
  done := by
    intro X hP hw hK hc i pins s σ H E I hf st hg
    subst hP hw hK
    obtain ⟨⟨old, he⟩, hit, hne⟩ := st
    obtain ⟨f0, f1, f2, f3, f4, f5⟩ := hf it (by simp)
    have D := Draws.text (prog := X.prog) (w := X.w) (A := X.A.in1) (by simpa using I.ok.hd hc) it z t
    have hi : i = z.cps.size := hg
    exact wpAny_pyNext_enum_endD D he (by rw [← hi]; exact hit) fun h' eb => ⟨rfl, I.turned (t' := s.toks) (fun b o hb q => eb b o hb q) f0 f1 f3 f4 f5⟩
  self := fun A i s Q E st h => let ⟨⟨_, he⟩, _⟩ := st; wpAny_pyIter_enum he h
def iEnumA (K : PySem.W.Frag) (ta : TA) : TI := fun σ H R => ta σ H fun vs H1 =>
  (∃ a xs, vs = [.ref a] ∧ SqL K H1 a xs ∧ R (Ite K a) H1) ∨ (∃ a xs, vs = [.ref a] ∧ SqT K H1 a xs ∧ R (IteT K a) H1) ∨ ∃ z, vs = [.str z] ∧ R (IteS z) H1
theorem pi_enumA {X : Cx} {e : Expr} {ta : TA} {p pos tpos : Pos} {elts : List Expr} {kk : Nat} (hg : Gl X "enumerate") (hm : X.mg "enumerate" = none) (ha : PA X [e] ta) (hs : starEach [e] X.env = [(false, eval e X.env)] := by rfl) :
    PI X (.Tuple elts kk tpos) (.Call (.Name "enumerate" p) [e] [] pos) (iEnumA X.K ta) := by
  refine ⟨fun pins s σ H R I h => ?_⟩
  refine Call_ (ld_blt I hg hm boot_enumerate (PyProof.Rows.callWith_type1 (thn (ha.run pos pins s σ H _ I h) fun us s1 ⟨vs, H1, I1, r1, q1⟩ => ?_) hs rfl))
  have fr : ∀ b ∈ [s1.heap.objs.size + 1, s1.heap.objs.size], FpOk X pins H1 b := fun b hb => by
    have e' : b = s1.heap.objs.size + 1 ∨ b = s1.heap.objs.size := by simpa using hb
    have hle : s1.heap.objs.size ≤ b := by
      rcases e' with z | z
      · rw [z]; exact Nat.le_add_right _ _
      · rw [z]; exact Nat.le_refl _
    exact I1.fpOk hle (I1.hok.fresh hle)
  rcases q1 with ⟨a, xs, rfl, hq, q⟩ | ⟨a, xs, rfl, hq, q⟩ | ⟨z, rfl, q⟩
  · cases r1 with
    | cons r rr =>
      cases rr
      cases r
      obtain ⟨its, rv, p', hz⟩ := I1.list hq
      refine call_enumerate_list p'.isList fun h' he hit hsz hk => wpAny_pyIter_enum he ?_
      have I2 : Inv X pins σ H1 { s1 with heap := h' } := I1.kept (t' := s1.toks) hk
      exact ⟨s1.heap.objs.size + 1, [s1.heap.objs.size + 1, s1.heap.objs.size], _, _, H1, rfl, I2, turn_enum a (s1.heap.objs.size + 1) s1.heap.objs.size, ⟨⟨.none, he⟩, hit, Nat.succ_ne_self _⟩, fr, q⟩
  · cases r1 with
    | cons r rr =>
      cases rr
      cases r
      obtain ⟨its, rv, p', hz⟩ := I1.tuple hq
      refine call_enumB (begins_tuple a its.toArray) p' fun h' he hit hsz hk => wpAny_pyIter_enum he ?_
      have I2 : Inv X pins σ H1 { s1 with heap := h' } := I1.kept (t' := s1.toks) hk
      exact ⟨s1.heap.objs.size + 1, [s1.heap.objs.size + 1, s1.heap.objs.size], _, _, H1, rfl, I2, turn_enumT a (s1.heap.objs.size + 1) s1.heap.objs.size, ⟨⟨.none, he⟩, ⟨_, hit, rfl, rfl⟩, Nat.succ_ne_self _⟩, fr, q⟩
  · cases r1 with
    | cons r rr =>
      cases rr
      obtain ⟨t, rfl⟩ := r
      refine call_enumB (begins_text z t) trivial fun h' he hit hsz hk => wpAny_pyIter_enum he ?_
      have I2 : Inv X pins σ H1 { s1 with heap := h' } := I1.kept (t' := s1.toks) hk
      exact ⟨s1.heap.objs.size + 1, [s1.heap.objs.size + 1, s1.heap.objs.size], _, _, H1, rfl, I2, turn_enumS (s1.heap.objs.size + 1) s1.heap.objs.size z t, ⟨⟨.none, he⟩, ⟨_, hit, rfl, rfl⟩, Nat.succ_ne_self _⟩, fr, q⟩
/-- a plain walk over a list, a tuple, a text -/
theorem pi_seq {X : Cx} {tg e : Expr} {te : TE} (he : PE X e te) : PI X tg e (iSeq X.K te) := by
  refine ⟨fun pins s σ H R I h => ?_⟩
  refine thn (he.run pins s σ H _ I h) fun v s1 ⟨x, H1, I1, r1, q1⟩ => ?_
  rcases q1 with ⟨a, rfl, ⟨xs, hq⟩, q⟩ | ⟨a, rfl, ⟨xs, hq⟩, q⟩ | ⟨z, rfl, q⟩
  · cases r1
    obtain ⟨its, rv, p, hz⟩ := I1.list hq
    refine wpAny_pyIter_list p.isList ?_
    refine ⟨s1.heap.objs.size, [s1.heap.objs.size], _, _, H1, rfl, I1.kept (t' := s1.toks) fun b o e => Heap.get?_push_of_some _ e, turn_list a _, ⟨_, Heap.get?_push_size _ rfl, rfl, rfl⟩, fun b hb => ?_, q⟩
    have e : b = s1.heap.objs.size := by simpa using hb
    subst e
    exact I1.fpOk (Nat.le_refl _) (I1.hok.fresh (Nat.le_refl _))
  · cases r1
    obtain ⟨its, rv, p, hz⟩ := I1.tuple hq
    refine wpAny_pyIter_tuple (show s1.heap.IsTuple a its.toArray from p) ?_
    refine ⟨s1.heap.objs.size, [s1.heap.objs.size], _, _, H1, rfl, I1.kept (t' := s1.toks) fun b o e => Heap.get?_push_of_some _ e, turn_tuple a _, ⟨_, Heap.get?_push_size _ rfl, rfl, rfl⟩, fun b hb => ?_, q⟩
    have e : b = s1.heap.objs.size := by simpa using hb
    subst e
    exact I1.fpOk (Nat.le_refl _) (I1.hok.fresh (Nat.le_refl _))
  · obtain ⟨t, rfl⟩ := r1
    cases ha : z.cps.all (· < 128)
    · exact wpAny_pyIter_wide ha (pi_one (tk := s1.toks) I1 _ (turn_str _ z t "str_iterator" (.inr rfl)) ⟨_, Heap.get?_push_size _ rfl, rfl, rfl⟩ q)
    · exact wpAny_pyIter_ascii ha (pi_one (tk := s1.toks) I1 _ (turn_str _ z t "str_ascii_iterator" (.inl rfl)) ⟨_, Heap.get?_push_size _ rfl, rfl, rfl⟩ q)

/-! ### by data -/
section
variable {K : PySem.W.Frag} {σ : L2.St} {B : Hp} {ta : TA} {ds es : List PyData}
def enumD (ds : List PyData) : List PyData := (List.range ds.length).map fun (i : Nat) => PyData.tuple [.int (i : Int), ds.getD i .none]
theorem enumD_len : (enumD ds).length = ds.length := by
  unfold enumD
  rw [List.length_map, List.length_range]
theorem enumD_get {i : Nat} {d : PyData} (h : (enumD ds)[i]? = some d) : ∃ e, ds[i]? = some e ∧ d = .tuple [.int (i : Int), e] := by
  have hi : i < ds.length := by
    have := (List.getElem?_eq_some_iff.mp h).1
    rwa [enumD_len] at this
  unfold enumD at h
  rw [List.getElem?_map, List.getElem?_range hi] at h
  refine ⟨ds[i], List.getElem?_eq_getElem hi, ?_⟩
  have e := Option.some.inj h
  rw [← e]
  show PyData.tuple [.int (i : Int), ds.getD i .none] = PyData.tuple [.int (i : Int), ds[i]]
  rw [List.getD_eq_getElem?_getD, List.getElem?_eq_getElem hi]
  rfl
/-- a new pair, seen with S' hidden -/
theorem pair_new {S' : List Addr} {H : Hp} {T : Addr} {x : V} {i : Int} {e : PyData} (T' : Tr S' H) (hT : H T = none) (hx : Dn (hide S' H) x e) : Dn (hide S' (upd H T (.tup [.int i, x]))) (.ref T) (.tuple [.int i, e]) :=
  .tup (hide_new T' hT) (.cons (.int _) (.cons (hx.up (hide_up (Ex.new hT))) .nil))
theorem it_enumL (h : DenA ta σ B [.list ds]) : ItD (iEnumA K ta) σ B (enumD ds) := fun S H1 T e R r => h S H1 T e _ fun vs H2 e2 hv => by
  cases hv with
  | cons h1 t =>
    cases t
    cases h1 with
    | @lst a xs _ ha hx =>
      refine .inl ⟨a, xs, rfl, .inl (.inl (hide_le a _ ha)), r _ H2 e2 ?_⟩
      rw [enumD_len, ← hx.len]
      refine ⟨fun i H hi e => ⟨xs, xs[i], .inl (.inl (e a _ ha)), by simp [hi]⟩, fun H e => ⟨xs, .inl (.inl (e a _ ha)), Nat.le_refl _⟩, fun i H v H' hi e y => ?_⟩
      obtain ⟨T', x, rfl, hT, rfl, hg⟩ := y
      refine ⟨Ex.new hT, fun S' T2 e' d hd => ?_⟩
      obtain ⟨d', hd', rfl⟩ := enumD_get hd
      obtain ⟨v', h2, h3⟩ := hx.get hd'
      rw [hg xs (.inl (.inl (e a _ ha)))] at h2
      cases h2
      exact pair_new T2 hT (h3.up e')
theorem it_enumT (h : DenA ta σ B [.tuple ds]) : ItD (iEnumA K ta) σ B (enumD ds) := fun S H1 T e R r => h S H1 T e _ fun vs H2 e2 hv => by
  cases hv with
  | cons h1 t =>
    cases t
    cases h1 with
    | @tup a xs _ ha hx =>
      refine .inr (.inl ⟨a, xs, rfl, .inl (.inl (hide_le a _ ha)), r _ H2 e2 ?_⟩)
      rw [enumD_len, ← hx.len]
      refine ⟨fun i H hi e => ⟨xs, xs[i], .inl (.inl (e a _ ha)), by simp [hi]⟩, fun H e => ⟨xs, .inl (.inl (e a _ ha)), rfl⟩, fun i H v H' hi e y => ?_⟩
      obtain ⟨T', x, rfl, hT, rfl, hg⟩ := y
      refine ⟨Ex.new hT, fun S' T2 e' d hd => ?_⟩
      obtain ⟨d', hd', rfl⟩ := enumD_get hd
      obtain ⟨v', h2, h3⟩ := hx.get hd'
      rw [hg xs (.inl (.inl (e a _ ha)))] at h2
      cases h2
      exact pair_new T2 hT (h3.up e')
theorem it_enumS {z : Str} (h : DenA ta σ B [.str z]) : ItD (iEnumA K ta) σ B (enumD (signs z)) := fun S H1 T e R r => h S H1 T e _ fun vs H2 e2 hv => by
  cases hv with
  | cons h1 t =>
    cases t
    cases h1
    refine .inr (.inr ⟨z, rfl, r _ H2 e2 ?_⟩)
    rw [enumD_len, signs_len]
    refine ⟨fun i H hi e => hi, fun H e => rfl, fun i H v H' hi e y => ?_⟩
    obtain ⟨T', c, rfl, hT, rfl, hg⟩ := y
    refine ⟨Ex.new hT, fun S' T2 e' d hd => ?_⟩
    obtain ⟨d', hd', rfl⟩ := enumD_get hd
    unfold signs at hd'
    rw [List.getElem?_map, Array.getElem?_toList, hg] at hd'
    cases hd'
    exact pair_new T2 hT (.str _)
theorem it_zipT (h : DenA ta σ B [.tuple ds, .tuple es]) : ItD (RZ.iZipA K ta) σ B ((ds.zip es).map fun p => PyData.tuple [p.1, p.2]) := fun S H1 T e R r => h S H1 T e _ fun vs H2 e2 hv => by
  cases hv with
  | cons h1 t =>
    cases t with
    | cons h2 t =>
      cases t
      cases h1 with
      | @tup a xs _ ha hx =>
        cases h2 with
        | @tup b ys _ hb hy =>
          refine ⟨a, b, xs, ys, rfl, .inr ⟨.inl (.inl (hide_le a _ ha)), .inl (.inl (hide_le b _ hb)), r _ H2 e2 ?_⟩⟩
          have hl : ((ds.zip es).map fun p => PyData.tuple [p.1, p.2]).length = min xs.length ys.length := by
            rw [List.length_map, List.length_zip, hx.len, hy.len]
          rw [hl]
          refine ⟨fun i H hi e => ⟨xs, ys, xs[i]'(by omega), ys[i]'(by omega), .inl (.inl (e a _ ha)), .inl (.inl (e b _ hb)), List.getElem?_eq_getElem (by omega), List.getElem?_eq_getElem (by omega)⟩,
            fun H e => ⟨xs, ys, .inl (.inl (e a _ ha)), .inl (.inl (e b _ hb)), by omega⟩, fun i H v H' hi e y => ?_⟩
          obtain ⟨T', x, y', rfl, hT, rfl, hg1, hg2⟩ := y
          refine ⟨Ex.new hT, fun S' T2 e' d hd => ?_⟩
          have g1 := hg1 xs (.inl (.inl (e a _ ha)))
          have g2 := hg2 ys (.inl (.inl (e b _ hb)))
          obtain ⟨d1, k1, m1⟩ := hx.getV g1
          obtain ⟨d2, k2, m2⟩ := hy.getV g2
          rw [List.getElem?_map, List.getElem?_zip_eq_some (z := (d1, d2)) |>.mpr ⟨k1, k2⟩] at hd
          cases hd
          exact .tup (hide_new T2 hT) (.cons ((m1.up e').up (hide_up (Ex.new hT))) (.cons ((m2.up e').up (hide_up (Ex.new hT))) .nil))
end
end LPW

/-! ## LpText -/
/-! The text by its places; what the top has written of the names that the defs read. -/
namespace LPW
open PySem PySem.Spec PyProof.Rows L2 Evl
def top (i : Nat) : Stmt := PySem.Challenge.pw_linepainters_k46_whole_several.main.body.getD i (.Pass ⟨0, 0, 0, 0⟩)
abbrev s_is_int : Stmt := top 9
abbrev n_is_int : List Str := ["value"]
theorem sc_is_int : FnScope n_is_int ["value"] (defScope s_is_int) := ⟨rfl, rfl, rfl, by decide +kernel, rfl, by decide +kernel, by decide +kernel⟩
abbrev s_is_in : Stmt := top 10
abbrev n_is_in : List Str := ["value", "least", "most"]
theorem sc_is_in : FnScope n_is_in ["value", "least", "most"] (defScope s_is_in) := ⟨rfl, rfl, rfl, by decide +kernel, rfl, by decide +kernel, by decide +kernel⟩
abbrev s_need_number : Stmt := top 11
abbrev n_need_number : List Str := ["value", "least", "most"]
theorem sc_need_number : FnScope n_need_number ["value", "least", "most"] (defScope s_need_number) := ⟨rfl, rfl, rfl, by decide +kernel, rfl, by decide +kernel, by decide +kernel⟩
abbrev s_is_picture : Stmt := top 12
abbrev n_is_picture : List Str := ["value", "row", "sign"]
theorem sc_is_picture : FnScope n_is_picture ["value"] (defScope s_is_picture) := ⟨rfl, rfl, rfl, by decide +kernel, rfl, by decide +kernel, by decide +kernel⟩
abbrev s_need_picture : Stmt := top 13
abbrev n_need_picture : List Str := ["value"]
theorem sc_need_picture : FnScope n_need_picture ["value"] (defScope s_need_picture) := ⟨rfl, rfl, rfl, by decide +kernel, rfl, by decide +kernel, by decide +kernel⟩
abbrev s_lines_of : Stmt := top 14
abbrev n_lines_of : List Str := ["picture"]
theorem sc_lines_of : FnScope n_lines_of ["picture"] (defScope s_lines_of) := ⟨rfl, rfl, rfl, by decide +kernel, rfl, by decide +kernel, by decide +kernel⟩
abbrev s_differing : Stmt := top 15
abbrev n_differing : List Str := ["start", "goal", "at", "row", "spot", "sign"]
theorem sc_differing : FnScope n_differing ["start", "goal"] (defScope s_differing) := ⟨rfl, rfl, rfl, by decide +kernel, rfl, by decide +kernel, by decide +kernel⟩
abbrev s_leads_to : Stmt := top 17
abbrev n_leads_to : List Str := ["picture", "line", "high", "at", "sign", "row"]
theorem sc_leads_to : FnScope n_leads_to ["picture", "line"] (defScope s_leads_to) := ⟨rfl, rfl, rfl, by decide +kernel, rfl, by decide +kernel, by decide +kernel⟩
abbrev s_layers_of : Stmt := top 18
abbrev n_layers_of : List Str := ["picture", "left", "found", "ways", "told", "some", "gone", "line", "other"]
theorem sc_layers_of : FnScope n_layers_of ["picture"] (defScope s_layers_of) := ⟨rfl, rfl, rfl, by decide +kernel, rfl, by decide +kernel, by decide +kernel⟩
abbrev s_core_of : Stmt := top 19
abbrev n_core_of : List Str := ["picture", "told", "some", "line"]
theorem sc_core_of : FnScope n_core_of ["picture"] (defScope s_core_of) := ⟨rfl, rfl, rfl, by decide +kernel, rfl, by decide +kernel, by decide +kernel⟩
abbrev s_is_free_of : Stmt := top 20
abbrev n_is_free_of : List Str := ["picture"]
theorem sc_is_free_of : FnScope n_is_free_of ["picture"] (defScope s_is_free_of) := ⟨rfl, rfl, rfl, by decide +kernel, rfl, by decide +kernel, by decide +kernel⟩
abbrev s_meets : Stmt := top 22
abbrev n_meets : List Str := ["picture", "cell", "lines"]
theorem sc_meets : FnScope n_meets ["picture", "cell", "lines"] (defScope s_meets) := ⟨rfl, rfl, rfl, by decide +kernel, rfl, by decide +kernel, by decide +kernel⟩
abbrev s_least_of : Stmt := top 23
abbrev n_least_of : List Str := ["start", "goal", "left", "found", "some", "line", "told", "needed", "at", "spot", "cell"]
theorem sc_least_of : FnScope n_least_of ["start", "goal"] (defScope s_least_of) := ⟨rfl, rfl, rfl, by decide +kernel, rfl, by decide +kernel, by decide +kernel⟩
abbrev s_trimmed : Stmt := top 24
abbrev n_trimmed : List Str := ["found", "some", "needed"]
theorem sc_trimmed : FnScope n_trimmed ["found"] (defScope s_trimmed) := ⟨rfl, rfl, rfl, by decide +kernel, rfl, by decide +kernel, by decide +kernel⟩
abbrev s_need_list : Stmt := top 27
abbrev n_need_list : List Str := ["value", "picture"]
theorem sc_need_list : FnScope n_need_list ["value"] (defScope s_need_list) := ⟨rfl, rfl, rfl, by decide +kernel, rfl, by decide +kernel, by decide +kernel⟩
abbrev s_need_like : Stmt := top 28
abbrev n_need_like : List Str := ["value", "picture"]
theorem sc_need_like : FnScope n_need_like ["value"] (defScope s_need_like) := ⟨rfl, rfl, rfl, by decide +kernel, rfl, by decide +kernel, by decide +kernel⟩
abbrev s_need_pictures : Stmt := top 29
abbrev n_need_pictures : List Str := ["value"]
theorem sc_need_pictures : FnScope n_need_pictures ["value"] (defScope s_need_pictures) := ⟨rfl, rfl, rfl, by decide +kernel, rfl, by decide +kernel, by decide +kernel⟩
abbrev s_few : Stmt := top 30
abbrev n_few : List Str := ["start", "goal", "told", "some"]
theorem sc_few : FnScope n_few ["start", "goal"] (defScope s_few) := ⟨rfl, rfl, rfl, by decide +kernel, rfl, by decide +kernel, by decide +kernel⟩
abbrev s_table : Stmt := top 31
abbrev n_table : List Str := ["value", "other", "one"]
theorem sc_table : FnScope n_table ["value"] (defScope s_table) := ⟨rfl, rfl, rfl, by decide +kernel, rfl, by decide +kernel, by decide +kernel⟩
abbrev s_along : Stmt := top 32
abbrev n_along : List Str := ["value", "told", "one", "other"]
theorem sc_along : FnScope n_along ["value"] (defScope s_along) := ⟨rfl, rfl, rfl, by decide +kernel, rfl, by decide +kernel, by decide +kernel⟩
abbrev s_nearest_goal : Stmt := top 33
abbrev n_nearest_goal : List Str := ["start", "value", "told", "good", "at", "goal", "pair"]
theorem sc_nearest_goal : FnScope n_nearest_goal ["start", "value"] (defScope s_nearest_goal) := ⟨rfl, rfl, rfl, by decide +kernel, rfl, by decide +kernel, by decide +kernel⟩
abbrev s_nearest_start : Stmt := top 34
abbrev n_nearest_start : List Str := ["value", "goal", "told", "good", "at", "start", "pair"]
theorem sc_nearest_start : FnScope n_nearest_start ["value", "goal"] (defScope s_nearest_start) := ⟨rfl, rfl, rfl, by decide +kernel, rfl, by decide +kernel, by decide +kernel⟩
abbrev s_reached_all : Stmt := top 35
abbrev n_reached_all : List Str := ["value", "found", "at", "start", "goal"]
theorem sc_reached_all : FnScope n_reached_all ["value"] (defScope s_reached_all) := ⟨rfl, rfl, rfl, by decide +kernel, rfl, by decide +kernel, by decide +kernel⟩
abbrev s_from_all : Stmt := top 36
abbrev n_from_all : List Str := ["value", "start", "at", "goal"]
theorem sc_from_all : FnScope n_from_all ["value"] (defScope s_from_all) := ⟨rfl, rfl, rfl, by decide +kernel, rfl, by decide +kernel, by decide +kernel⟩
abbrev s_free_ones : Stmt := top 37
abbrev n_free_ones : List Str := ["value", "at", "picture"]
theorem sc_free_ones : FnScope n_free_ones ["value"] (defScope s_free_ones) := ⟨rfl, rfl, rfl, by decide +kernel, rfl, by decide +kernel, by decide +kernel⟩
abbrev s_same_core : Stmt := top 38
abbrev n_same_core : List Str := ["one", "other"]
theorem sc_same_core : FnScope n_same_core ["one", "other"] (defScope s_same_core) := ⟨rfl, rfl, rfl, by decide +kernel, rfl, by decide +kernel, by decide +kernel⟩
abbrev s_groups : Stmt := top 39
abbrev n_groups : List Str := ["value", "ways", "found", "at", "other", "one", "spot"]
theorem sc_groups : FnScope n_groups ["value"] (defScope s_groups) := ⟨rfl, rfl, rfl, by decide +kernel, rfl, by decide +kernel, by decide +kernel⟩
abbrev s_agree : Stmt := top 40
abbrev n_agree : List Str := ["value", "found", "at", "row", "spot", "sign", "picture"]
theorem sc_agree : FnScope n_agree ["value"] (defScope s_agree) := ⟨rfl, rfl, rfl, by decide +kernel, rfl, by decide +kernel, by decide +kernel⟩
abbrev s_law_taken : Stmt := top 42
abbrev n_law_taken : List Str := ["_law_row", "_law_many", "_law_found", "_law_cell"]
theorem sc_law_taken : FnScope n_law_taken ["_law_row", "_law_many"] (defScope s_law_taken) := ⟨rfl, rfl, rfl, by decide +kernel, rfl, by decide +kernel, by decide +kernel⟩
abbrev s_law_pick : Stmt := top 43
abbrev n_law_pick : List Str := ["_law_row", "_law_things"]
theorem sc_law_pick : FnScope n_law_pick ["_law_row", "_law_things"] (defScope s_law_pick) := ⟨rfl, rfl, rfl, by decide +kernel, rfl, by decide +kernel, by decide +kernel⟩
abbrev s_law_alike : Stmt := top 44
abbrev n_law_alike : List Str := ["_law_found", "_law_due", "_law_k"]
theorem sc_law_alike : FnScope n_law_alike ["_law_found", "_law_due"] (defScope s_law_alike) := ⟨rfl, rfl, rfl, by decide +kernel, rfl, by decide +kernel, by decide +kernel⟩
abbrev s_law_mixed : Stmt := top 45
abbrev n_law_mixed : List Str := ["_law_row", "_law_some", "_law_left", "_law_found", "_law_turn"]
theorem sc_law_mixed : FnScope n_law_mixed ["_law_row", "_law_some"] (defScope s_law_mixed) := ⟨rfl, rfl, rfl, by decide +kernel, rfl, by decide +kernel, by decide +kernel⟩
abbrev s_law_any : Stmt := top 46
abbrev n_law_any : List Str := ["_law_row", "_law_high", "_law_wide", "_law_often", "_law_found", "_law_at", "_law_spot"]
theorem sc_law_any : FnScope n_law_any ["_law_row", "_law_high", "_law_wide"] (defScope s_law_any) := ⟨rfl, rfl, rfl, by decide +kernel, rfl, by decide +kernel, by decide +kernel⟩
abbrev s_law_paint : Stmt := top 47
abbrev n_law_paint : List Str := ["_law_picture_here", "_law_line", "_law_found", "_law_at", "_law_told", "_law_spot"]
theorem sc_law_paint : FnScope n_law_paint ["_law_picture_here", "_law_line"] (defScope s_law_paint) := ⟨rfl, rfl, rfl, by decide +kernel, rfl, by decide +kernel, by decide +kernel⟩
abbrev s_law_painted : Stmt := top 48
abbrev n_law_painted : List Str := ["_law_picture_here", "_law_deeds_here", "_law_line"]
theorem sc_law_painted : FnScope n_law_painted ["_law_picture_here", "_law_deeds_here"] (defScope s_law_painted) := ⟨rfl, rfl, rfl, by decide +kernel, rfl, by decide +kernel, by decide +kernel⟩
abbrev s_law_deeds : Stmt := top 49
abbrev n_law_deeds : List Str := ["_law_row", "_law_picture_here", "_law_most", "_law_turn"]
theorem sc_law_deeds : FnScope n_law_deeds ["_law_row", "_law_picture_here", "_law_most"] (defScope s_law_deeds) := ⟨rfl, rfl, rfl, by decide +kernel, rfl, by decide +kernel, by decide +kernel⟩
abbrev s_law_picture : Stmt := top 50
abbrev n_law_picture : List Str := ["_law_row", "_law_most", "_law_high", "_law_wide", "_law_picture_here", "_law_kind"]
theorem sc_law_picture : FnScope n_law_picture ["_law_row", "_law_most"] (defScope s_law_picture) := ⟨rfl, rfl, rfl, by decide +kernel, rfl, by decide +kernel, by decide +kernel⟩
abbrev s_law_start : Stmt := top 51
abbrev n_law_start : List Str := ["_law_row", "_law_goal", "_law_kind", "_law_shut", "_law_high", "_law_found", "_law_at", "_law_told", "_law_spot", "_law_kept"]
theorem sc_law_start : FnScope n_law_start ["_law_row", "_law_goal"] (defScope s_law_start) := ⟨rfl, rfl, rfl, by decide +kernel, rfl, by decide +kernel, by decide +kernel⟩
abbrev s_law_layers : Stmt := top 52
abbrev n_law_layers : List Str := ["_law_picture_here", "_law_high", "_law_wide", "_law_found", "_law_rows", "_law_columns", "_law_turn", "_law_full", "_law_empty", "_law_spot", "_law_at"]
theorem sc_law_layers : FnScope n_law_layers ["_law_picture_here"] (defScope s_law_layers) := ⟨rfl, rfl, rfl, by decide +kernel, rfl, by decide +kernel, by decide +kernel⟩
abbrev s_law_core : Stmt := top 53
abbrev n_law_core : List Str := ["_law_picture_here", "_law_told", "_law_some", "_law_line"]
theorem sc_law_core : FnScope n_law_core ["_law_picture_here"] (defScope s_law_core) := ⟨rfl, rfl, rfl, by decide +kernel, rfl, by decide +kernel, by decide +kernel⟩
abbrev s_law_differ : Stmt := top 54
abbrev n_law_differ : List Str := ["_law_start_here", "_law_goal", "_law_found", "_law_at", "_law_spot"]
theorem sc_law_differ : FnScope n_law_differ ["_law_start_here", "_law_goal"] (defScope s_law_differ) := ⟨rfl, rfl, rfl, by decide +kernel, rfl, by decide +kernel, by decide +kernel⟩
abbrev s_law_least : Stmt := top 55
abbrev n_law_least : List Str := ["_law_start_here", "_law_goal", "_law_left", "_law_found", "_law_high", "_law_some", "_law_rest", "_law_cell", "_law_line"]
theorem sc_law_least : FnScope n_law_least ["_law_start_here", "_law_goal"] (defScope s_law_least) := ⟨rfl, rfl, rfl, by decide +kernel, rfl, by decide +kernel, by decide +kernel⟩
abbrev s_law_few : Stmt := top 56
abbrev n_law_few : List Str := ["_law_start_here", "_law_goal", "_law_least_here"]
theorem sc_law_few : FnScope n_law_few ["_law_start_here", "_law_goal"] (defScope s_law_few) := ⟨rfl, rfl, rfl, by decide +kernel, rfl, by decide +kernel, by decide +kernel⟩
abbrev s_law : Stmt := top 57
abbrev n_law : List Str := ["_law_script", "_law_row", "_law_first", "_law_some", "_law_turn", "_law_value", "_law_many", "_law_other", "_law_due", "_law_at", "_law_steps", "_law_teams", "_law_cells", "_law_ways", "_law_one", "_law_line", "_law_spot", "_law_picture_here"]
theorem sc_law : FnScope n_law ["_law_script"] (defScope s_law) := ⟨rfl, rfl, rfl, by decide +kernel, rfl, by decide +kernel, by decide +kernel⟩
structure Tx (mg : Str → Option Value) : Prop where
  isinstance_ : mg "isinstance" = none
  tuple_ : mg "tuple" = none
  str_ : mg "str" = none
  int_ : mg "int" = none
  bool_ : mg "bool" = none
  list_ : mg "list" = none
  len_ : mg "len" = none
  all_ : mg "all" = none
  any_ : mg "any" = none
  enumerate_ : mg "enumerate" = none
  range_ : mg "range" = none
  sum_ : mg "sum" = none
  sorted_ : mg "sorted" = none
  min_ : mg "min" = none
  zip_ : mg "zip" = none
  set_ : mg "set" = none
  BLACK : ∃ t, mg "BLACK" = some (.str "#" t)
  WHITE : ∃ t, mg "WHITE" = some (.str "." t)
  MOST_SIDE : ∃ t, mg "MOST_SIDE" = some (.int 30 t)
  MOST_PICTURES : ∃ t, mg "MOST_PICTURES" = some (.int 20 t)
section
variable {X : Cx} {x : Str} {pos : Pos}
theorem pe_globS {s : Str} (h : ∃ t, X.mg x = some (.str s t)) (hg : Gl X x) (hd : (x == ("__debug__" : Str)) = false := by decide) : PE X (.Name x pos) (tC (.str s)) := by
  obtain ⟨t, h⟩ := h
  exact pe_glob hg h ⟨t, rfl⟩ hd
theorem pe_globI {i : Int} (h : ∃ t, X.mg x = some (.int i t)) (hg : Gl X x) (hd : (x == ("__debug__" : Str)) = false := by decide) : PE X (.Name x pos) (tC (.int i)) := by
  obtain ⟨t, h⟩ := h
  exact pe_glob hg h ⟨t, rfl⟩ hd
theorem pe_tyv {T : String} (h : X.mg x = none) (hg : Gl X x) (hv : bootBuiltins x = some (.type T)) (hn : x ≠ "__name__" := by decide) (hd : (x == ("__debug__" : Str)) = false := by decide) : PE X (.Name x pos) (tC (.ty T)) :=
  pe_bltn hg h hv rfl hn hd
end
/-- a comprehension within a comprehension's block -/
theorem blkOk_nest {N : List Str} {sc s1 scope : Scope} {own : List (Str × Nat)} {cl : List (Str × Addr)} {C : Addr} {env : Env} (hs : env.scope = sc) (h : blkC N (relS s1 sc) scope own = true) : BlkOk N (compEnvC s1 cl C env).scope scope own := by
  subst hs
  exact blkOk_by h

/-! ### rules whose reading speaks of K by a letter: in a comprehension's block nothing of the block may stand in it -/
section
variable {X : Cx} {K : PySem.W.Frag}
theorem k_isi (hK : X.K = K := by rfl) : CallR X (.builtin "isinstance") (rIsi K) := by subst hK; exact call_isi
theorem k_isiT (hK : X.K = K := by rfl) : CallR X (.builtin "isinstance") (rIsiT K) := by subst hK; exact call_isiT
theorem k_len (hK : X.K = K := by rfl) : CallR X (.builtin "len") (rLenA K) := by subst hK; exact cr_lenA
theorem k_all (hc : X.calm = true) (hK : X.K = K := by rfl) : CallR X (.builtin "all") (rAll K) := by subst hK; exact cr_all hc
theorem k_any (hc : X.calm = true) (hK : X.K = K := by rfl) : CallR X (.builtin "any") (rAny K) := by subst hK; exact cr_any hc
theorem k_sum (hc : X.calm = true) (hK : X.K = K := by rfl) : CallR X (.builtin "sum") (rSum K) := by subst hK; exact cr_sum hc
theorem k_list (hK : X.K = K := by rfl) : CallR X (.type "list") (rListA K) := by subst hK; exact cr_listA
theorem k_tup (hK : X.K = K := by rfl) : CallR X (.type "tuple") (rTupA K) := by subst hK; exact cr_tupA
theorem k_ix (hK : X.K = K := by rfl) : IxR X (rIx K) := by subst hK; exact ix_seq
theorem k_in (hK : X.K = K := by rfl) : OpR X (compareOp .In) (rIn K false) := by subst hK; exact op_in_seq
theorem k_nin (hK : X.K = K := by rfl) : OpR X (compareOp .NotIn) (rIn K true) := by subst hK; exact op_notIn_seq
theorem k_eq (hu : X.A.units + 64 < cLine) (hK : X.K = K := by rfl) : OpR X (compareOp .Eq) (rEqA K) := by subst hK; exact op_eqA hu
theorem k_ne (hu : X.A.units + 64 < cLine) (hK : X.K = K := by rfl) : OpR X (compareOp .NotEq) (rNeA K) := by subst hK; exact op_neA hu
theorem k_sorted (hK : X.K = K := by rfl) : CallR X (.builtin "sorted") (rSortedI K) := by subst hK; exact cr_sortedI
theorem pi_seqK {tg e : Expr} {te : TE} (he : PE X e te) (hK : X.K = K := by rfl) : PI X tg e (iSeq K te) := by subst hK; exact pi_seq he
theorem pi_enumK {e : Expr} {ta : TA} {p pos tpos : Pos} {elts : List Expr} {kk : Nat} (hg : Gl X "enumerate") (hm : X.mg "enumerate" = none) (ha : PA X [e] ta) (hK : X.K = K := by rfl) (hs : starEach [e] X.env = [(false, eval e X.env)] := by rfl) :
    PI X (.Tuple elts kk tpos) (.Call (.Name "enumerate" p) [e] [] pos) (iEnumA K ta) := by subst hK; exact pi_enumA hg hm ha hs
theorem pi_zipK {e e2 : Expr} {ta : TA} {p pos tpos : Pos} {elts : List Expr} {kk : Nat} (hg : Gl X "zip") (hm : X.mg "zip" = none) (ha : PA X [e, e2] ta) (hK : X.K = K := by rfl)
    (hs : starEach [e, e2] X.env = (false, eval e X.env) :: starEach [e2] X.env := by rfl) (hpl : (backTo pos (starEach [e2] X.env)).any (·.1) = false := by rfl) :
    PI X (.Tuple elts kk tpos) (.Call (.Name "zip" p) [e, e2] [] pos) (RZ.iZipA K ta) := by subst hK; exact RZ.pi_zipA hg hm ha hs hpl
theorem pg_tupK {es : List Expr} {k : Nat} {t : TGs} {n : Nat} {pos : Pos} (hc : X.calm = true) (h : PGs X es t) (hK : X.K = K := by rfl)
    (hn : (assignEach es X.env).length = n := by rfl) (hst : (assignEach es X.env).findIdx? (·.1) = none := by rfl) : PG X (.Tuple es k pos) (gTup K n t) := by subst hK; exact pg_tup hc h hn hst
theorem pa_starK {e : Expr} {te : TE} {es : List Expr} {t : TA} {p : Pos} (he : PE X e te) (hr : PA X es t) (hK : X.K = K := by rfl) (hs : starEach (.Starred e p :: es) X.env = (true, eval e X.env) :: starEach es X.env := by rfl) : PA X (.Starred e p :: es) (StX.tStar K te t) := by
  subst hK; exact StX.pa_star he hr hs
theorem k_slT (hK : X.K = K := by rfl) : SlR X (rSlT K) := by subst hK; exact sl_tup
theorem k_slL (hK : X.K = K := by rfl) : SlR X (rSlL K) := by subst hK; exact sl_list
end
end LPW

/-! ## LpW1 -/
/-! The defs of boards: numbers and pictures. -/
namespace LPW
open PySem PySem.Spec PyProof.Rows L2 Evl

/-! ### pictures as data -/
def sgn (b : Bool) : Str := if b then "#" else "."
def code (b : Bool) : Nat := if b then 35 else 46
def rowS (w : Nat) (f : Nat → Bool) : Str := ⟨((List.range w).map fun j => code (f j)).toArray⟩
def picD (h w : Nat) (c : LP.Pic) : PyData := .tuple ((List.range h).map fun i => .str (rowS w (c i)))
theorem sgn_code (b : Bool) : (⟨#[code b]⟩ : Str) = sgn b := by cases b <;> decide
theorem rowS_len (w : Nat) (f : Nat → Bool) : (rowS w f).length = w := by
  show ((List.range w).map fun j => code (f j)).toArray.size = w
  simp
theorem rowS_signs (w : Nat) (f : Nat → Bool) : signs (rowS w f) = (List.range w).map fun j => PyData.str (sgn (f j)) := by
  unfold signs rowS
  show ((List.range w).map fun j => code (f j)).map (fun c => PyData.str ⟨#[c]⟩) = _
  rw [List.map_map]
  exact List.map_congr_left fun j _ => by
    show PyData.str ⟨#[code (f j)]⟩ = _
    rw [sgn_code]
theorem rowS_at {w : Nat} {f : Nat → Bool} {j : Nat} (h : j < w) : (rowS w f).cps.toList[j]? = some (code (f j)) := by
  show ((List.range w).map fun j => code (f j))[j]? = _
  rw [List.getElem?_map, List.getElem?_range h]
  rfl
theorem picD_at {h : Nat} {i : Nat} (w : Nat) (c : LP.Pic) (hi : i < h) : ((List.range h).map fun i => PyData.str (rowS w (c i)))[i]? = some (.str (rowS w (c i))) := by
  rw [List.getElem?_map, List.getElem?_range hi]
  rfl
def PicOk (h w : Nat) : Prop := 1 ≤ h ∧ h ≤ 30 ∧ 1 ≤ w ∧ w ≤ 30
theorem sgn_inj {a b : Bool} : sgn a = sgn b ↔ a = b := by
  cases a <;> cases b <;> decide
def natL (ns : List Nat) : List PyData := ns.map fun (n : Nat) => PyData.int (n : Int)
def cellD (p : Nat × Nat) : PyData := .tuple [.int (p.1 : Int), .int (p.2 : Int)]

section
variable {P : Program} {w : World} {K : PySem.W.Frag} {mg : Str → Option Value} {base : Heap}
/-! ### isinstance, by data -/
theorem rc_isi {H : Hp} {S : List Addr} {x : V} {d : PyData} {T U : String} {b : Bool} (hd : Dn (hide S H) x d) (ht : (match d with | .none => "NoneType" | .bool _ => "bool" | .int _ => "int" | .str _ => "str" | .list _ => "list" | .tuple _ => "tuple" | .dict _ => "dict") = U)
    (hk : kitB U T = some b) (Q : VK) (q : Q (.bl b) H) : rIsi K [x, .ty T] H Q := by
  cases hd with
  | non => subst ht; exact ⟨.non, .ty T, _, _, b, rfl, .ty T, .base .non, kit_ty hk, q⟩
  | bl y => subst ht; exact ⟨.bl y, .ty T, _, _, b, rfl, .ty T, .base (.bl y), kit_ty hk, q⟩
  | int y => subst ht; exact ⟨.int y, .ty T, _, _, b, rfl, .ty T, .base (.int y), kit_ty hk, q⟩
  | str y => subst ht; exact ⟨.str y, .ty T, _, _, b, rfl, .ty T, .base (.str y), kit_ty hk, q⟩
  | lst ha _ => subst ht; exact ⟨_, .ty T, _, _, b, rfl, .ty T, .base (.lst (hide_le _ _ ha)), kit_ty hk, q⟩
  | tup ha _ => subst ht; exact ⟨_, .ty T, _, _, b, rfl, .ty T, .base (.tup (hide_le _ _ ha)), kit_ty hk, q⟩
def tyD : PyData → String
  | .none => "NoneType" | .bool _ => "bool" | .int _ => "int" | .str _ => "str" | .list _ => "list" | .tuple _ => "tuple" | .dict _ => "dict"
theorem den_isi {ta : TE} {σ : L2.St} {B : Hp} {d : PyData} {T : String} {b : Bool} (h : Den ta σ B d) (hk : kitB (tyD d) T = some b) : Den (tCB (rIsi K) (tCons ta (tCons (tC (.ty T)) tNil))) σ B (.bool b) := fun S H1 Tr1 e Q q =>
  h S H1 Tr1 e _ fun x H2 e2 hx => rc_isi hx (by cases d <;> rfl) hk Q (q _ H2 e2 (.bl b))

/-! ### is_int, is_in, need_number -/
def RIsInt : List PyData → PyData → Prop := fun ds d => ∃ i, ds = [.int i] ∧ d = .bool true
theorem ok_is_int (T : Tx mg) (h : At K mg "is_int" s_is_int ["value"]) : Prom P w K mg base "is_int" ["value"] 1 (SpR RIsInt) := by
  refine prom_R h sc_is_int (fun ds d hR => by obtain ⟨i, rfl, _⟩ := hR; rfl) fun f cdv A outer s H vs Q E S ds d hr Tr1 hv hR q => ?_
  obtain ⟨i, rfl, rfl⟩ := hR
  cases hv with
  | cons h1 t =>
    cases t
    refine ⟨_, (pss_one (ps_ret (pe_and (pe_callB (k_isi (K := K)) (by rfl) T.isinstance_ (by decide +kernel) (pa_cons (pv 0) (pa_cons (pe_tyv (T := "int") T.int_ (by rfl) (by decide +kernel)) pa_nil))) (pe_one (pe_not (pe_callB (k_isi (K := K)) (by rfl) T.isinstance_ (by decide +kernel) (pa_cons (pv 0) (pa_cons (pe_tyv (T := "bool") T.bool_ (by rfl) (by decide +kernel)) pa_nil)))))))), ?_⟩
    refine s_retD Tr1 (Ex.refl _) (den_andV (a := true) (b := !false) (den_isi (den_var rfl h1) (show kitB "int" "int" = some true by decide +kernel)) fun _ => den_notV (a := false) (den_isi (den_var rfl h1) (show kitB "int" "bool" = some false by decide +kernel))) fun x H1 e hx => q x H1 e hx
def RIsIn : List PyData → PyData → Prop := fun ds d => ∃ v a b : Int, ds = [.int v, .int a, .int b] ∧ d = .bool (decide (a ≤ v) && decide (v ≤ b))
theorem ok_is_in (T : Tx mg) (h : At K mg "is_in" s_is_in ["value", "least", "most"]) (c_is_int : Prom P w K mg base "is_int" ["value"] 1 (SpR RIsInt)) : Prom P w K mg base "is_in" ["value", "least", "most"] 2 (SpR RIsIn) := by
  refine prom_R h sc_is_in (fun ds d hR => by obtain ⟨v, a, b, rfl, _⟩ := hR; rfl) fun f cdv A outer s H vs Q E S ds d hr Tr1 hv hR q => ?_
  obtain ⟨v, a, b, rfl, rfl⟩ := hR
  cases hv with
  | cons h1 t =>
    cases t with
    | cons h2 t =>
      cases t with
      | cons h3 t =>
        cases t
        refine ⟨_, (pss_one (ps_ret (pe_and (pe_callP c_is_int (hr.mono (by decide)) (by rfl) (pa_cons (pv 0) pa_nil)) (pe_one (pe_chain op_leA op_leA (pv 1) (pv 0) (pv 2)))))), ?_⟩
        refine s_retD Tr1 (Ex.refl _) ((den_andV (den_call (dena_cons (den_var rfl h1) dena_nil) ⟨v, rfl, rfl⟩) fun _ => den_chain (den_var rfl h2) (den_var rfl h1) (den_var rfl h3) rd_le rd_le).to (by rw [Bool.true_and])) fun x H1 e hx => q x H1 e hx
def RNeedNumber : List PyData → PyData → Prop := fun ds d => ∃ v a b : Int, ds = [.int v, .int a, .int b] ∧ a ≤ v ∧ v ≤ b ∧ d = .none
theorem ok_need_number (T : Tx mg) (h : At K mg "need_number" s_need_number ["value", "least", "most"]) (c_is_in : Prom P w K mg base "is_in" ["value", "least", "most"] 2 (SpR RIsIn)) : Prom P w K mg base "need_number" ["value", "least", "most"] 3 (SpR RNeedNumber) := by
  refine prom_R h sc_need_number (fun ds d hR => by obtain ⟨v, a, b, rfl, _⟩ := hR; rfl) fun f cdv A outer s H vs Q E S ds d hr Tr1 hv hR q => ?_
  obtain ⟨v, a, b, rfl, h1', h2', rfl⟩ := hR
  cases hv with
  | cons h1 t =>
    cases t with
    | cons h2 t =>
      cases t with
      | cons h3 t =>
        cases t
        refine ⟨_, (pss_one (ps_if (pt_not (pt_val (pe_callP c_is_in (hr.mono (by decide)) (by rfl) (pa_cons (pv 0) (pa_cons (pv 1) (pa_cons (pv 2) pa_nil)))))) (pss_one ps_never) pss_nil)), ?_⟩
        refine s_skip Tr1 (Ex.refl _) ((tst_not (tst_B (den_call (dena_cons (den_var rfl h1) (dena_cons (den_var rfl h2) (dena_cons (den_var rfl h3) dena_nil))) ⟨v, a, b, rfl, rfl⟩))).to (by rw [decide_eq_true h1', decide_eq_true h2']; rfl)) fun H1 e => q _ H1 e .non

/-! ### words for pictures -/
section
variable {te ti ta : TE} {σ : L2.St} {B : Hp} {h wd i j : Nat} {c : LP.Pic} {f : Nat → Bool}
theorem den_len_pic (hp : Den te σ B (picD h wd c)) : Den (tCB (rLenA K) (tCons te tNil)) σ B (.int h) := (den_cb (dena_cons hp dena_nil) rc_lenT).to (by rw [List.length_map, List.length_range])
theorem den_row (hp : Den te σ B (picD h wd c)) (hi : Den ti σ B (.int (i : Int))) (hl : i < h) : Den (tOp (rIx K) te ti) σ B (.str (rowS wd (c i))) := den_op hp hi (rd_ixT (picD_at wd c hl))
theorem den_row0 (hp : Den te σ B (picD h wd c)) (hl : 1 ≤ h) : Den (tOp (rIx K) te (tC (.int 0))) σ B (.str (rowS wd (c 0))) := den_row (i := 0) hp den_int hl
theorem den_len_row (hp : Den te σ B (.str (rowS wd f))) (hw : wd ≤ 30) : Den (tCB (rLenA K) (tCons te tNil)) σ B (.int wd) := (den_cb (dena_cons hp dena_nil) (rc_lenS (by rw [rowS_len]; omega))).to (by rw [rowS_len])
theorem den_sign (hp : Den te σ B (.str (rowS wd f))) (hj : Den ti σ B (.int (j : Int))) (hw : wd ≤ 30) (hl : j < wd) : Den (tOp (rIx K) te ti) σ B (.str (sgn (f j))) :=
  (den_op hp hj (rd_ixS (by rw [rowS_len]; omega) (rowS_at hl))).to (by rw [sgn_code])
theorem den_all {α : Type} {xs : List α} {b : α → Bool} (hp : Den te σ B (.list (xs.map fun a => PyData.bool (b a)))) : Den (tCB (rAll K) (tCons te tNil)) σ B (.bool (xs.all b)) :=
  (den_cb (dena_cons (hp.to (show _ = PyData.list ((xs.map b).map PyData.bool) by rw [List.map_map]; rfl)) dena_nil) rc_all).to (by rw [List.all_map]; rfl)
theorem den_any {α : Type} {xs : List α} {b : α → Bool} (hp : Den te σ B (.list (xs.map fun a => PyData.bool (b a)))) : Den (tCB (rAny K) (tCons te tNil)) σ B (.bool (xs.any b)) :=
  (den_cb (dena_cons (hp.to (show _ = PyData.list ((xs.map b).map PyData.bool) by rw [List.map_map]; rfl)) dena_nil) rc_any).to (by rw [List.any_map]; rfl)
theorem den_sum {α : Type} {xs : List α} {b : α → Int} (hp : Den te σ B (.list (xs.map fun a => PyData.int (b a)))) : Den (tCB (rSum K) (tCons te tNil)) σ B (.int (xs.map b).sum) :=
  den_cb (dena_cons (hp.to (show _ = PyData.list ((xs.map b).map PyData.int) by rw [List.map_map]; rfl)) dena_nil) rc_sum
end
theorem it_pic {te : TE} {σ : L2.St} {B : Hp} {h wd : Nat} {c : LP.Pic} (hp : Den te σ B (picD h wd c)) : ItD (iSeq K te) σ B ((List.range h).map fun i => .str (rowS wd (c i))) := it_tup hp
theorem it_row {te : TE} {σ : L2.St} {B : Hp} {wd : Nat} {f : Nat → Bool} (hp : Den te σ B (.str (rowS wd f))) : ItD (iSeq K te) σ B ((List.range wd).map fun j => PyData.str (sgn (f j))) := by
  rw [← rowS_signs]
  exact it_str hp
theorem enumD_range (n : Nat) (f : Nat → PyData) : enumD ((List.range n).map f) = (List.range n).map fun (i : Nat) => PyData.tuple [.int (i : Int), f i] := by
  unfold enumD
  rw [List.length_map, List.length_range]
  refine List.map_congr_left fun i hi => ?_
  rw [List.getD_eq_getElem?_getD, List.getElem?_map, List.getElem?_range (List.mem_range.mp hi)]
  rfl
theorem it_enum_pic {te : TE} {σ : L2.St} {B : Hp} {h wd : Nat} {c : LP.Pic} (hp : Den te σ B (picD h wd c)) : ItD (iEnumA K (tCons te tNil)) σ B ((List.range h).map fun (i : Nat) => PyData.tuple [.int (i : Int), .str (rowS wd (c i))]) := by
  rw [← enumD_range h fun i => .str (rowS wd (c i))]
  exact it_enumT (dena_cons hp dena_nil)
theorem it_enum_row {te : TE} {σ : L2.St} {B : Hp} {wd : Nat} {f : Nat → Bool} (hp : Den te σ B (.str (rowS wd f))) : ItD (iEnumA K (tCons te tNil)) σ B ((List.range wd).map fun (j : Nat) => PyData.tuple [.int (j : Int), .str (sgn (f j))]) := by
  rw [← enumD_range wd fun j => .str (sgn (f j)), ← rowS_signs]
  exact it_enumS (dena_cons hp dena_nil)

/-! ### is_picture, need_picture, lines_of -/
def RIsPicture : List PyData → PyData → Prop := fun ds d => ∃ h wd c, PicOk h wd ∧ ds = [picD h wd c] ∧ d = .bool true
theorem in_two (b : Bool) : inD (.str (sgn b)) [.str "#", .str "."] = true := by
  cases b <;> simp [inD, PyData.eqv, sgn]
theorem ok_is_picture (T : Tx mg) (h : At K mg "is_picture" s_is_picture ["value"]) : Prom P w K mg base "is_picture" ["value"] 1 (SpR RIsPicture) := by
  refine prom_R h sc_is_picture (fun ds d hR => by obtain ⟨_, _, _, _, rfl, _⟩ := hR; rfl) fun f cdv A outer s H vs Q E S ds d hr Tr1 hv hR q => ?_
  obtain ⟨hh, wd, c, ⟨k1, k2, k3, k4⟩, rfl, rfl⟩ := hR
  cases hv with
  | cons h1 t =>
    cases t
    refine ⟨_, (pss_cons (ps_if (PW.pt (pw_or (pt_not (pt_val (pe_callB (k_isi (K := K)) (by rfl) T.isinstance_ (by decide +kernel) (pa_cons (pv 0) (pa_cons (pe_tyv (T := "tuple") T.tuple_ (by rfl) (by decide +kernel)) pa_nil))))) (pw_or1 (pt_not (pt_chain op_leA op_leA pe_int (pe_callB (k_len (K := K)) (by rfl) T.len_ (by decide +kernel) (pa_cons (pv 0) pa_nil)) (pe_globI T.MOST_SIDE (by rfl))))))) (pss_one (ps_ret pe_bl)) pss_nil)
      (pss_cons (ps_if (PW.pt (pw_or (pt_not (pt_val (pe_callB (k_all (K := K) rfl) (by rfl) T.all_ (by decide +kernel) (pa_cons (pe_lc (own := [("row", 1)])  rfl sc_is_picture.nd (pi_seqK (K := K) (pv 0)) (blkOk_by (N := n_is_picture) (sc := defScope s_is_picture) (by decide +kernel)) (fun _ _ _ _ _ => (pg_name (i := 1) sc_is_picture.nd rfl (.inl rfl))) (fun _ _ _ _ _ => pts_nil) (fun _ _ _ _ _ => (pe_callB (k_isi (K := K)) (by rfl) T.isinstance_ (by decide +kernel) (pa_cons (pv 1) (pa_cons (pe_tyv (T := "str") T.str_ (by rfl) (by decide +kernel)) pa_nil))))) pa_nil)))) (pw_or1 (pt_not (pt_chain op_leA op_leA pe_int (pe_callB (k_len (K := K)) (by rfl) T.len_ (by decide +kernel) (pa_cons (pe_ix (k_ix (K := K)) (pv 0) pe_int (fun _ _ => rfl)) pa_nil)) (pe_globI T.MOST_SIDE (by rfl))))))) (pss_one (ps_ret pe_bl)) pss_nil)
      (pss_one (ps_ret (pe_callB (k_all (K := K) rfl) (by rfl) T.all_ (by decide +kernel) (pa_cons (pe_lc (own := [("row", 1)])  rfl sc_is_picture.nd (pi_seqK (K := K) (pv 0)) (blkOk_by (N := n_is_picture) (sc := defScope s_is_picture) (by decide +kernel)) (fun _ _ _ _ _ => (pg_name (i := 1) sc_is_picture.nd rfl (.inl rfl))) (fun _ _ _ _ _ => pts_nil) (fun _ _ _ _ _ => (pe_and (pe_cmpR (k_eq (K := K) hr.units) (pe_callB (k_len (K := K)) (by rfl) T.len_ (by decide +kernel) (pa_cons (pv 1) pa_nil)) (pe_callB (k_len (K := K)) (by rfl) T.len_ (by decide +kernel) (pa_cons (pe_ix (k_ix (K := K)) (pv 0) pe_int (fun _ _ => rfl)) pa_nil)) (nomark _)) (pe_one (pe_callB (k_all (K := K) rfl) (by rfl) T.all_ (by decide +kernel) (pa_cons (pe_lc (own := [("sign", 2)])  rfl sc_is_picture.nd (pi_seqK (K := K) (pv 1)) (blkOk_nest (N := n_is_picture) (sc := defScope s_is_picture) rfl (by decide +kernel)) (fun _ _ _ _ _ => (pg_name (i := 2) sc_is_picture.nd rfl (.inl rfl))) (fun _ _ _ _ _ => pts_nil) (fun _ _ _ _ _ => (pe_cmpR (k_in (K := K)) (pv 2) (pe_tup (pa_cons (pe_globS T.BLACK (by rfl)) (pa_cons (pe_globS T.WHITE (by rfl)) pa_nil))) (by rfl)))) pa_nil)))))) pa_nil)))))), ?_⟩
    have e30 : ∀ n : Nat, 1 ≤ n → n ≤ 30 → (decide ((1 : Int) ≤ (n : Int)) && decide ((n : Int) ≤ 30)) = true := fun n a b => by
      rw [decide_eq_true (by omega), decide_eq_true (by omega)]
      rfl
    refine q_skip Tr1 (Ex.refl _) ((tst_or (a := !true) (tst_not (tst_B (den_isi (den_var rfl h1) (show kitB "tuple" "tuple" = some true by decide +kernel)))) fun _ => tst_not (tst_test (den_chain den_int (den_len_pic (den_var rfl h1)) den_int rd_le rd_le))).to (by rw [e30 hh k1 k2]; rfl)) fun H1 e1 => ?_
    have g1 := h1.up (hide_up (S := S) e1)
    refine q_skip (Tr1.up e1) (Ex.refl _) ((tst_or (tst_not (tst_B (den_all (xs := List.range hh) (b := fun _ => true) (den_lcM (List.range hh) (fun i => .str (rowS wd (c i))) _ (fun _ => .bool true) (it_pic (den_var rfl g1)) (by rw [List.length_range]; omega) (fun _ _ => asg_name)
      fun i hi B1 σ1 eB ⟨x, hx, ex⟩ => by
        subst ex
        exact ⟨rfl, den_isi (den_var rfl hx) (show kitB "str" "str" = some true by decide +kernel)⟩)))) fun _ => tst_not (tst_test (den_chain den_int (den_len_row (den_row0 (den_var rfl g1) k1) k4) den_int rd_le rd_le))).to (by rw [e30 wd k3 k4, List.all_eq_true.mpr (fun _ _ => rfl)]; rfl)) fun H2 e2 => ?_
    have g2 := g1.up (hide_up (S := S) e2)
    refine s_retD ((Tr1.up e1).up e2) (Ex.refl _) ((den_all (xs := List.range hh) (b := fun _ => true) (den_lcM (List.range hh) (fun i => .str (rowS wd (c i))) _ (fun _ => .bool true) (it_pic (den_var rfl g2)) (by rw [List.length_range]; omega) (fun _ _ => asg_name)
      fun i hi B1 σ1 eB ⟨x, hx, ex⟩ => by
        subst ex
        refine ⟨rfl, (den_andV (den_op (den_len_row (den_var rfl hx) k4) (den_len_row (den_row0 (den_var rfl (g2.up eB)) k1) k4) rd_eqI) fun _ => den_all (xs := List.range wd) (b := fun _ => true)
          (den_lcM (List.range wd) (fun j => .str (sgn (c i j))) _ (fun _ => .bool true) (it_row (den_var rfl hx)) (by rw [List.length_range]; omega) (fun _ _ => asg_name) fun j hj B2 σ2 eB2 ⟨y, hy, ey⟩ => by
            subst ey
            exact ⟨rfl, (den_op (den_var rfl hy) (den_tup (dena_cons den_str (dena_cons den_str dena_nil)) (by show 2 ≤ 100000; decide)) (rd_inT rfl rfl)).to (congrArg PyData.bool (in_two (c i j)))⟩)).to ?_⟩
        rw [decide_eq_true rfl, List.all_eq_true.mpr (fun _ _ => rfl)]
        rfl)).to (by rw [List.all_eq_true.mpr (fun _ _ => rfl)])) fun x H3 e hx => q x H3 ((e1.trans e2).trans e) hx
def RNeedPicture : List PyData → PyData → Prop := fun ds d => ∃ h wd c, PicOk h wd ∧ ds = [picD h wd c] ∧ d = .none
theorem ok_need_picture (T : Tx mg) (h : At K mg "need_picture" s_need_picture ["value"]) (c_is_picture : Prom P w K mg base "is_picture" ["value"] 1 (SpR RIsPicture)) : Prom P w K mg base "need_picture" ["value"] 2 (SpR RNeedPicture) := by
  refine prom_R h sc_need_picture (fun ds d hR => by obtain ⟨_, _, _, _, rfl, _⟩ := hR; rfl) fun f cdv A outer s H vs Q E S ds d hr Tr1 hv hR q => ?_
  obtain ⟨hh, wd, c, k, rfl, rfl⟩ := hR
  cases hv with
  | cons h1 t =>
    cases t
    refine ⟨_, (pss_one (ps_if (pt_not (pt_val (pe_callP c_is_picture (hr.mono (by decide)) (by rfl) (pa_cons (pv 0) pa_nil)))) (pss_one ps_never) pss_nil)), ?_⟩
    exact s_skip Tr1 (Ex.refl _) (tst_not (a := true) (tst_B (den_call (dena_cons (den_var rfl h1) dena_nil) ⟨hh, wd, c, k, rfl, rfl⟩))) fun H1 e => q _ H1 e .non
def RLinesOf : List PyData → PyData → Prop := fun ds d => ∃ h wd c, PicOk h wd ∧ ds = [picD h wd c] ∧ d = .int ((h + wd : Nat) : Int)
theorem ok_lines_of (T : Tx mg) (h : At K mg "lines_of" s_lines_of ["picture"]) : Prom P w K mg base "lines_of" ["picture"] 1 (SpR RLinesOf) := by
  refine prom_R h sc_lines_of (fun ds d hR => by obtain ⟨_, _, _, _, rfl, _⟩ := hR; rfl) fun f cdv A outer s H vs Q E S ds d hr Tr1 hv hR q => ?_
  obtain ⟨hh, wd, c, ⟨k1, k2, k3, k4⟩, rfl, rfl⟩ := hR
  cases hv with
  | cons h1 t =>
    cases t
    refine ⟨_, (pss_one (ps_ret (pe_op op_addA (pe_callB (k_len (K := K)) (by rfl) T.len_ (by decide +kernel) (pa_cons (pv 0) pa_nil)) (pe_callB (k_len (K := K)) (by rfl) T.len_ (by decide +kernel) (pa_cons (pe_ix (k_ix (K := K)) (pv 0) pe_int (fun _ _ => rfl)) pa_nil))))), ?_⟩
    exact s_retD Tr1 (Ex.refl _) ((den_op (den_len_pic (den_var rfl h1)) (den_len_row (den_row0 (den_var rfl h1) k1) k4) rd_addI).to (by rw [Int.natCast_add])) fun x H1 e hx => q x H1 e hx
end
end LPW

/-! ## LpDc2 -/
/-! A dict comprehension with two fors: {k: v for a in xs for b in ys} (HandS has one for; the list's two-for rule is the pattern). -/
namespace LPW
open PySem PySem.Spec PyProof.Rows L2

abbrev dc2E (kx vx ga ia gb ib : Expr) (fa fb : List Expr) (sco : Scope) (po : Pos) : Expr := .DictComp kx vx [⟨ga, ia, fa, 0⟩, ⟨gb, ib, fb, 0⟩] sco po
theorem dc2_turn0 (kx vx ga ia gb ib : Expr) (fa fb : List Expr) (sco : Scope) (po : Pos) (iv av : Value) (ev : Env) :
    compTurn (dc2E kx vx ga ia gb ib fa fb sco po) 0 iv av ev = (do
      standAt ia.pos
      match ← pyNext iv with
      | none => pure (.done .next)
      | some y =>
        letOwnedTupleGo ga iv y
        assign ga ev y
        let mut go := true
        for c in fa do
          if go then go ← isTrue c ev (eval c ev)
        if go then
          let z ← eval ib ev
          standAt ib.pos
          let z ← foldedSetIterable ib ev z
          let _ ← runOwn (.compStart (dc2E kx vx ga ia gb ib fa fb sco po) 1 (← holding [z] (pyIter z)) av ev) ev
        again (.compLoop (dc2E kx vx ga ia gb ib fa fb sco po) 0 iv av ev)) := by rfl
theorem dc2_turn1 (kx vx ga ia gb ib : Expr) (fa fb : List Expr) (sco : Scope) (po : Pos) (iv : Value) (D : Addr) (ev : Env) :
    compTurn (dc2E kx vx ga ia gb ib fa fb sco po) 1 iv (.ref D) ev = (do
      standAt ib.pos
      match ← pyNext iv with
      | none => pure (.done .next)
      | some y =>
        letOwnedTupleGo gb iv y
        assign gb ev y
        let mut go := true
        for c in fb do
          if go then go ← isTrue c ev (eval c ev)
        if go then
          (do
            let ky ← eval kx ev
            let vy ← holding [ky] (eval vx ev)
            standAt { kx.pos with endLine := vx.pos.endLine, endCol := vx.pos.endCol }
            holding [ky, vy] (dictSet D ky vy))
        again (.compLoop (dc2E kx vx ga ia gb ib fa fb sco po) 1 iv (.ref D) ev)) := by rfl
section
variable {prog : Program} {w : World} {A : Around} {R : Result → Shared → Prop} {s : Shared} {kx vx ga ia gb ib : Expr} {fa fb : List Expr} {sco : Scope} {po : Pos} {iv av : Value} {ev : Env} {D : Addr}
abbrev NB (prog : Program) (w : World) (A : Around) (ev : Env) (R : Result → Shared → Prop) : Value → Shared → Prop := notedBy (model prog w) A ev fun e s' => R (.error e) s'
theorem dc2_loop0 (hs : ∀ x, foldedSetIterable ib ev x = pure x) (I : Nat → Shared → Prop)
    (turn : ∀ n s, I n s → wpAny (model prog w) A (pyNext iv) (fun r s1 => match r with
      | none => R (.ok .next) s1
      | some y => wpAny (model prog w) A (letOwnedTupleGo ga iv y) (fun _ s2 => wpAny (model prog w) A (assign ga ev y) (fun _ s3 =>
          wpAny (model prog w) A (forIn fa true fun c r => if r = true then do let ok ← isTrue c ev (eval c ev); pure (ForInStep.yield ok) else pure (ForInStep.yield r)) (fun go s4 =>
            if go = true then wpAny (model prog w) A (eval ib ev) (fun z s5 => wpAny (model prog w) A (pyIter z) (fun jt s6 =>
              codeAny (model prog w) A (.compStart (dc2E kx vx ga ia gb ib fa fb sco po) 1 jt av ev) (fun r s' => match r with
                | .ok _ => ∃ m, m < n ∧ I m s'
                | .error _ => False) s6) (NB prog w A ev R) s5) (NB prog w A ev R) s4
            else ∃ m, m < n ∧ I m s4) (NB prog w A ev R) s3) (NB prog w A ev R) s2) (NB prog w A ev R) s1) (NB prog w A ev R) s)
    (n : Nat) (h : I n s) : codeAny (model prog w) A (.compLoop (dc2E kx vx ga ia gb ib fa fb sco po) 0 iv av ev) R s := by
  refine codeAny_loop rfl I (fun n s hI => ?_) n h
  show wpAny _ A ((compTurn (dc2E kx vx ga ia gb ib fa fb sco po) 0 iv av ev).onRaise (fun x => do noteFrame x ev; theTreesLotGoes x)) _ _ s
  refine wpAny_noted ?_
  rw [dc2_turn0]
  refine wpAny_bind (wpAny_standAt (wpAny_bind (wpAny_mono (turn n s hI) (fun r s1 q1 => ?_) fun _ _ z => z)))
  cases r with
  | none => exact wpAny_pure q1
  | some y =>
    refine wpAny_bind (wpAny_mono q1 (fun _ s2 q2 => ?_) fun _ _ z => z)
    refine wpAny_bind (wpAny_mono q2 (fun _ s3 q3 => wpAny_bind (wpAny_mono q3 (fun go s4 q4 => ?_) fun _ _ z => z)) fun _ _ z => z)
    cases go with
    | false => exact wpAny_pure ⟨rfl, q4⟩
    | true =>
      refine wpAny_bind (wpAny_mono q4 (fun z s5 q5 => ?_) fun _ _ z => z)
      refine wpAny_bind (wpAny_standAt (wpAny_bind (wpAny_of_eq (hs z) (wpAny_bind (wpAny_holding (wpAny_mono q5 (fun jt s6 q6 => ?_) fun _ _ z => z))))))
      refine wpAny_bind (wpAny_runOwn ?_)
      rw [Around.mark_none]
      refine codeAny_mono q6 fun r s' hr => ?_
      cases r with
      | ok f =>
        first
          | exact wpAny_pure ⟨rfl, hr⟩
          | exact wpAny_bind (wpAny_pure (wpAny_pure ⟨rfl, hr⟩))
      | error e => exact hr.elim
theorem dc2_loop1 (I : Nat → Shared → Prop)
    (turn : ∀ n s, I n s → wpAny (model prog w) A (pyNext iv) (fun r s1 => match r with
      | none => R (.ok .next) s1
      | some y => wpAny (model prog w) A (letOwnedTupleGo gb iv y) (fun _ s2 => wpAny (model prog w) A (assign gb ev y) (fun _ s3 =>
          wpAny (model prog w) A (forIn fb true fun c r => if r = true then do let ok ← isTrue c ev (eval c ev); pure (ForInStep.yield ok) else pure (ForInStep.yield r)) (fun go s4 =>
            if go = true then wpAny (model prog w) A (eval kx ev) (fun ky s5 => wpAny (model prog w) A (eval vx ev) (fun vy s6 =>
              wpAny (model prog w) A (dictSet D ky vy) (fun _ s7 => ∃ m, m < n ∧ I m s7) (NB prog w A ev R) s6) (NB prog w A ev R) s5) (NB prog w A ev R) s4
            else ∃ m, m < n ∧ I m s4) (NB prog w A ev R) s3) (NB prog w A ev R) s2) (NB prog w A ev R) s1) (NB prog w A ev R) s)
    (n : Nat) (h : I n s) : codeAny (model prog w) A (.compLoop (dc2E kx vx ga ia gb ib fa fb sco po) 1 iv (.ref D) ev) R s := by
  refine codeAny_loop rfl I (fun n s hI => ?_) n h
  show wpAny _ A ((compTurn (dc2E kx vx ga ia gb ib fa fb sco po) 1 iv (.ref D) ev).onRaise (fun x => do noteFrame x ev; theTreesLotGoes x)) _ _ s
  refine wpAny_noted ?_
  rw [dc2_turn1]
  refine wpAny_bind (wpAny_standAt (wpAny_bind (wpAny_mono (turn n s hI) (fun r s1 q1 => ?_) fun _ _ z => z)))
  cases r with
  | none => exact wpAny_pure q1
  | some y =>
    refine wpAny_bind (wpAny_mono q1 (fun _ s2 q2 => ?_) fun _ _ z => z)
    refine wpAny_bind (wpAny_mono q2 (fun _ s3 q3 => wpAny_bind (wpAny_mono q3 (fun go s4 q4 => ?_) fun _ _ z => z)) fun _ _ z => z)
    cases go with
    | false => exact wpAny_pure ⟨rfl, q4⟩
    | true =>
      exact wpAny_bind (wpAny_bind (wpAny_mono q4 (fun ky s5 q5 => wpAny_bind (wpAny_holding (wpAny_mono q5 (fun vy s6 q6 => wpAny_bind (wpAny_standAt (wpAny_holding (wpAny_mono q6 (fun _ s7 q7 => wpAny_pure ⟨rfl, q7⟩) fun _ _ z => z)))) fun _ _ z => z))) fun _ _ z => z))
theorem dc2_start1 (h0 : codeAny (model prog w) A (.compLoop (dc2E kx vx ga ia gb ib fa fb sco po) 1 iv av ev) R s)
    (h : wpAny (model prog w) A (pyIter iv) (fun jt s' => codeAny (model prog w) A (.compLoop (dc2E kx vx ga ia gb ib fa fb sco po) 1 jt av ev) R s') (NB prog w A ev R) s) :
    codeAny (model prog w) A (.compStart (dc2E kx vx ga ia gb ib fa fb sco po) 1 iv av ev) R s := by
  refine codeAny_of_tree ?_
  show wpAny _ _ ((compStart (dc2E kx vx ga ia gb ib fa fb sco po) 1 iv av ev).onRaise (fun x => do noteFrame x ev; standAt theWindowsPlace)) _ _ s
  refine wpAny_notedAt ?_
  unfold compStart
  show wpAny _ _ (ask >>= _) _ _ s
  refine wpAny_bind (wpAny_askSetting (wpAny_ite ?_))
  split
  · first
      | exact wpAny_bind (wpAny_pure (wpAny_pure (And.intro rfl h0)))
      | exact wpAny_pure (And.intro rfl h0)
  · first
      | exact wpAny_bind (wpAny_rule (wpAny_bind (wpAny_standAt (wpAny_bind (wpAny_mono h (fun jt s' z => wpAny_pure (And.intro rfl z)) fun _ _ x => x)))))
      | (refine wpAny_bind (wpAny_rule ?_); show wpAny _ _ (standAt ib.pos >>= _) _ _ s; exact wpAny_bind (wpAny_standAt (wpAny_bind (wpAny_mono h (fun jt s' z => wpAny_pure (And.intro rfl z)) fun _ _ x => x))))
end

section
variable {X : Cx}
/-- D the new dict; the inner walk begins in every turn of the outer one -/
def tDc2 (wa : TI) (g : TG) (ta : TT) (wb : TI) (g1 : TG) (tb : TT) (tk tv : TE) (vs vs1 : List Nat) : TE := fun σ H Q => wa σ H fun J H1 => ∀ D, H1 D = none → ∃ W : Nat → Nat → Hp → Prop, (∃ m, W 0 m (upd H1 D (.dK []))) ∧ ∀ i m H, W i m H →
  (J.stop i H ∧ Q (.ref D) H) ∨ (J.go i H ∧ ∃ Nx : Hp → Prop, (∀ H', Nx H' → ∃ m', m' < m ∧ W (i + 1) m' H') ∧ ∀ x H', J.yld i H x H' → g x (wipe σ vs) H' fun σ2 H2 => wipe σ2 vs = wipe σ vs ∧ ta σ2 H2 fun b H3 =>
    if b = true then wb σ2 H3 fun J1 H4 => ∃ W1 : Nat → Nat → Hp → Prop, (∃ m, W1 0 m H4) ∧ ∀ j k H, W1 j k H →
      (J1.stop j H ∧ Nx H) ∨ (J1.go j H ∧ ∃ Nx1 : Hp → Prop, (∀ H', Nx1 H' → ∃ k', k' < k ∧ W1 (j + 1) k' H') ∧ ∀ x H', J1.yld j H x H' → g1 x (wipe σ2 vs1) H' fun σ3 H5 => wipe σ3 vs1 = wipe σ2 vs1 ∧ tb σ3 H5 fun b H6 =>
        if b = true then tk σ3 H6 fun y H7 => tv σ3 H7 fun z H8 => ∃ kvs k, y = kV k ∧ H8 D = some (.dK kvs) ∧ kvs.length < sizeLine ∧ Nx1 (upd H8 D (.dK (putK kvs k z))) else Nx1 H6)
    else Nx H3)
theorem dc2_core {pins : List (Addr × Obj)} {s : Shared} {σ : L2.St} {H : Hp} {Q : VK} {kx vx ga ia gb ib : Expr} {fa fb : List Expr} {sco : Scope} {own : List (Str × Nat)} {vs1 : List Nat} {po po' : Pos} {wa wb : TI} {g g1 : TG} {ta tb : TT} {tk tv : TE} {use : Option (Value → Sem Unit)} {Qf : Value → Shared → Prop}
    (hc : X.calm = true) (hN : X.N.Nodup) (I : Inv X pins σ H s) (hi : PI X ga ia wa) (ok : BlkOk X.N X.env.scope sco own) (hv : ∀ i ∈ vs1, i ∈ own.map (·.2))
    (hg : ∀ (s : Shared) (H : Hp) (C : Addr) (cl : List (Str × Addr)) (fp : List Addr), PG (X.blk s H sco (compEnvC sco cl C X.env) fp) ga g) (ht : ∀ (s : Shared) (H : Hp) (C : Addr) (cl : List (Str × Addr)) (fp : List Addr), PTs (X.blk s H sco (compEnvC sco cl C X.env) fp) fa ta)
    (hk : ∀ (s : Shared) (H : Hp) (C : Addr) (cl : List (Str × Addr)) (fp : List Addr), PE (X.blk s H sco (compEnvC sco cl C X.env) fp) kx tk)
    (he : ∀ (s : Shared) (H : Hp) (C : Addr) (cl : List (Str × Addr)) (fp : List Addr), PE (X.blk s H sco (compEnvC sco cl C X.env) fp) vx tv) (hs : ∀ x, foldedSetIterable ia X.env x = pure x)
    (hi1 : ∀ (s : Shared) (H : Hp) (C : Addr) (cl : List (Str × Addr)) (fp : List Addr), PI (X.blk s H sco (compEnvC sco cl C X.env) fp) gb ib wb)
    (hg1 : ∀ (s : Shared) (H : Hp) (C : Addr) (cl : List (Str × Addr)) (fp : List Addr), PG (X.blk s H sco (compEnvC sco cl C X.env) fp) gb g1)
    (ht1 : ∀ (s : Shared) (H : Hp) (C : Addr) (cl : List (Str × Addr)) (fp : List Addr), PTs (X.blk s H sco (compEnvC sco cl C X.env) fp) fb tb)
    (hs1 : ∀ ev x, foldedSetIterable ib ev x = pure x)
    (h : tDc2 wa g ta wb g1 tb tk tv (own.map (·.2)) vs1 σ H Q)
    (hRR : ∀ D C s' m H', Inv X pins σ H' s' → Q (.ref D) H' → s'.heap.Ns C m → FpOk X pins H' C → compPost (model X.prog X.w) X.A X.xe use Qf (.ref D) C (.ok .next) s') :
    wpAny (model X.prog X.w) X.A (comprehension (dc2E kx vx ga ia gb ib fa fb sco po) sco X.env po' newDict false (eval ia X.env) use) Qf X.xe s := by
  have hfree : ∀ y ∈ sco.names, y.2 = .free → ∃ c, X.env.cells.lookup y.1 = some c := fun y hy e => (ok.free y hy e).elim (fun k => I.ok.has _ (.inl k)) fun k => I.ok.has _ (.inr k)
  refine wpAny_comprehension_free (use := use) rfl hs (closure_ok hfree) ok.kind (fun y hy e => by rw [ok.uniq y hy, e])
    (thn (hi.run pins s σ H _ I h) fun xv s1 hx => thn hx fun itv s2 h2 => ?_)
  obtain ⟨it, fp, tn, J, H2, e, I2, T, st2, f2, q⟩ := h2
  subst e
  refine wpAny_newObj_type (newEnv_comp ?_)
  generalize hD : s2.heap.objs.size = D
  have hDn : H2 D = none := I2.hok.fresh (Nat.le_of_eq hD)
  obtain ⟨W, ⟨m0, w0⟩, turn⟩ := q D hDn
  generalize hs3 : ({ s2 with heap := s2.heap.push { cls := .type "dict", data := .dict #[] } } : Shared) = s3
  have I3 : Inv X pins σ (upd H2 D (.dK [])) s3 := by
    rw [← hs3]
    refine I2.laid (t' := s2.toks) (fun b o e => Heap.get?_push_of_some _ e) (Nat.le_of_eq hD) ?_
    rw [← hD]
    exact dk_empty s2.heap I2.big
  have h3 : s3.heap = s2.heap.push { cls := .type "dict", data := .dict #[] } := by rw [← hs3]
  have low : ∀ b ∈ fp, b < s2.heap.objs.size := fun b hb => let ⟨_, e, _⟩ := T.obj _ _ st2 b hb; Heap.lt_size e
  have f3 : ∀ b ∈ fp, FpOk X pins (upd H2 D (.dK [])) b ∧ b < s3.heap.objs.size := fun b hb => by
    have hlt := low b hb
    refine ⟨⟨?_, (f2 b hb).2⟩, by rw [h3, Heap.size_push]; exact Nat.lt_succ_of_lt hlt⟩
    rw [upd_ne (by rw [← hD]; exact Nat.ne_of_lt hlt)]
    exact (f2 b hb).1
  have st3 : tn 0 s3.heap := T.keep _ _ _ st2 fun b _ o e => by rw [h3]; exact Heap.get?_push_of_some _ e
  have I4 := block_start I3 ok hN f3
  have pg := hg s3 (upd H2 D (.dK [])) s3.heap.objs.size (cellsFrom (s3.heap.objs.size + 1) sco.names (cloFrom X.env.cells sco.names [])) fp
  have pt := ht s3 (upd H2 D (.dK [])) s3.heap.objs.size (cellsFrom (s3.heap.objs.size + 1) sco.names (cloFrom X.env.cells sco.names [])) fp
  have pk := hk s3 (upd H2 D (.dK [])) s3.heap.objs.size (cellsFrom (s3.heap.objs.size + 1) sco.names (cloFrom X.env.cells sco.names [])) fp
  have pe := he s3 (upd H2 D (.dK [])) s3.heap.objs.size (cellsFrom (s3.heap.objs.size + 1) sco.names (cloFrom X.env.cells sco.names [])) fp
  have pi1 := hi1 s3 (upd H2 D (.dK [])) s3.heap.objs.size (cellsFrom (s3.heap.objs.size + 1) sco.names (cloFrom X.env.cells sco.names [])) fp
  have pg1 := hg1 s3 (upd H2 D (.dK [])) s3.heap.objs.size (cellsFrom (s3.heap.objs.size + 1) sco.names (cloFrom X.env.cells sco.names [])) fp
  have pt1 := ht1 s3 (upd H2 D (.dK [])) s3.heap.objs.size (cellsFrom (s3.heap.objs.size + 1) sco.names (cloFrom X.env.cells sco.names [])) fp
  show codeAny _ _ (.compStart (dc2E kx vx ga ia gb ib fa fb sco po) 0 (.ref it) (.ref D) (compEnvC sco (cellsFrom (s3.heap.objs.size + 1) sco.names (cloFrom X.env.cells sco.names [])) s3.heap.objs.size X.env)) (compPost (model X.prog X.w) X.A X.xe use Qf (.ref D) s3.heap.objs.size) { s3 with heap := pushCells (s3.heap.push { cls := .type "dict", data := .dict #[] }) sco.names }
  have nfp : ∀ b ∈ fp, (upd H2 D (.dK [])) b = none := fun b hb => (f3 b hb).1.1
  generalize hce : compEnvC sco (cellsFrom (s3.heap.objs.size + 1) sco.names (cloFrom X.env.cells sco.names [])) s3.heap.objs.size X.env = ce at I4 pg pt pk pe pi1 pg1 pt1 ⊢
  have cL : ce.locals = s3.heap.objs.size := by subst hce; rfl
  generalize hH3 : upd H2 D (.dK []) = H3 at I3 I4 pg pt pk pe pi1 pg1 pt1 w0 nfp f3
  generalize hs4 : ({ s3 with heap := pushCells (s3.heap.push { cls := .type "dict", data := .dict #[] }) sco.names } : Shared) = s4 at I4 ⊢
  have st4 : tn 0 s4.heap := T.keep _ _ _ st3 fun b _ o e => by rw [← hs4]; exact pushCells_keeps _ _ _ _ (Heap.get?_push_of_some _ e)
  -- the outer iterator's objects, seen from within the block
  have outs : ∀ {σ' : L2.St} {H' : Hp} {s' : Shared}, Inv (X.blk s3 H3 sco ce fp) [] σ' H' s' → (∀ b ∈ fp, H' b = none) → ∀ b ∈ fp, FpOk (X.blk s3 H3 sco ce fp) [] H' b := fun {σ' H' s'} I' hn b hb =>
    ⟨hn b hb, (I'.ok.exf b hb).1, I'.ok.exfs b hb, .inl hb, fun x c e => (I'.ok.exf b hb).2 x c e, fun p hp => absurd (show p ∈ ([] : List (Addr × Obj)) ++ [] from hp) (by simp)⟩
  have loop : codeAny (model X.prog X.w) X.A (.compLoop (dc2E kx vx ga ia gb ib fa fb sco po) 0 (.ref it) (.ref D) ce) (compPost (model X.prog X.w) X.A X.xe use Qf (.ref D) s3.heap.objs.size) s4 := by
    refine dc2_loop0 (hs1 ce) (fun n s' => ∃ i H', Inv (X.blk s3 H3 sco ce fp) [] (wipe σ (own.map (·.2))) H' s' ∧ tn i s'.heap ∧ (∀ b ∈ fp, H' b = none) ∧ W i n H') ?_ m0 ⟨0, H3, I4, st4, nfp, w0⟩
    rintro n s5 ⟨i, H5, I5, st5, n5, w5⟩
    rcases turn i n H5 w5 with ⟨stop, qq⟩ | ⟨go, Nx, hNx, step⟩
    · refine thnF (T.done (X.blk s3 H3 sco ce fp) rfl rfl rfl hc i [] s5 _ H5 (fun _ _ => False) I5 (outs I5 n5) st5 stop) fun r s6 ⟨hr, I6⟩ => ?_
      subst hr
      have I7 : Inv X pins σ H5 s6 := I3.call' (ch := fp) I6.os I6.base I6.hok I6.bare fun b hb => ⟨(f3 b hb).1.2.2.2.1, (f3 b hb).1.2.1, (f3 b hb).1.2.2.2.2.1, (f3 b hb).1.2.2.2.2.2⟩
      have nC : H5 s3.heap.objs.size = none := cL ▸ (show H5 ce.locals = none from I6.free)
      obtain ⟨m, hn, _⟩ := I6.loc
      have hn : s6.heap.Ns ce.locals m := hn
      rw [cL] at hn
      exact hRR D s3.heap.objs.size s6 m H5 I7 qq hn (I3.fpOk (Nat.le_refl _) nC)
    · refine thnF (T.item (X.blk s3 H3 sco ce fp) rfl rfl rfl hc i [] s5 _ H5 (fun _ _ => False) I5 (outs I5 n5) st5 go) fun r s6 ⟨u, hr, h6⟩ => ?_
      subst hr
      refine thnF h6 fun _ s7 ⟨x, H7, I7, r7, y7, st7, n7⟩ => ?_
      have I7' := I7.pinned (outs I7 n7) (T.obj _ _ st7)
      refine thnF (pg.run _ s7 _ H7 x u _ I7' r7 (step x H7 y7)) fun _ s8 ⟨σ8, H8, I8, hw8, q8⟩ => ?_
      refine thnF (pt.run _ s8 σ8 H8 _ I8 q8) fun b s9 ⟨H9, I9, q9⟩ => ?_
      -- the turn's end, from any slots that know what the block knew at its start
      have fin : ∀ {σ9 : L2.St} {s' : Shared} {H' : Hp}, Inv (X.blk s3 H3 sco ce fp) ([] ++ pinsAt fp s7.heap) σ9 H' s' → (wipe σ (own.map (·.2))).length = σ9.length → (∀ (j : Nat) v, (wipe σ (own.map (·.2)))[j]? = some (some v) → σ9[j]? = some (some v)) → Nx H' →
          ∃ m, m < n ∧ ∃ i H', Inv (X.blk s3 H3 sco ce fp) [] (wipe σ (own.map (·.2))) H' s' ∧ tn i s'.heap ∧ (∀ b ∈ fp, H' b = none) ∧ W i m H' := fun {σ9 s' H'} I' hl hk nx => by
        obtain ⟨m', hm, w'⟩ := hNx H' nx
        have pin' : ∀ b ∈ fp, ∀ o, s7.heap.get? b = some o → s'.heap.get? b = some o ∧ H' b = none := fun b hb o e =>
          have z := I'.pin (b, o) (List.mem_append_right _ (List.mem_append_right _ (mem_pinsAt hb e)))
          ⟨z.1, z.2.1⟩
        refine ⟨m', hm, i + 1, H', (I'.unpinned (pins := [])).weak hl hk, T.keep _ _ _ st7 fun b hb o e => (pin' b hb o e).1, fun b hb => ?_, w'⟩
        obtain ⟨o, e, _⟩ := T.obj _ _ st7 b hb
        exact (pin' b hb o e).2
      have hl8 : (wipe σ (own.map (·.2))).length = σ8.length := by rw [← hw8, wipe_length]
      have hk8 : ∀ (j : Nat) v, (wipe σ (own.map (·.2)))[j]? = some (some v) → σ8[j]? = some (some v) := fun j v e => by
        rw [← hw8] at e
        exact (wipe_some e).1
      have hk9 : ∀ (j : Nat) v, (wipe σ (own.map (·.2)))[j]? = some (some v) → (wipe σ8 vs1)[j]? = some (some v) := fun j v e => by
        rw [← hw8] at e
        obtain ⟨e1, e2⟩ := wipe_some e
        rw [wipe_out fun z => e2 (hv j z)]
        exact e1
      cases b with
      | false =>
        simp only [Bool.false_eq_true, if_false] at q9 ⊢
        exact fin I9 hl8 hk8 q9
      | true =>
        simp only [if_true] at q9 ⊢
        refine thnF (pi1.run _ s9 σ8 H9 _ I9 q9) fun xv s10 hx => thnF hx fun itv s11 h11 => ?_
        obtain ⟨it1, fp1, tn1, J1, H11, e1, I11, T1, st11, f11, W1, ⟨m1, w1⟩, turn1⟩ := h11
        subst e1
        have ins : ∀ {H' : Hp}, (∀ b ∈ fp1, H' b = none) → ∀ b ∈ fp1, FpOk (X.blk s3 H3 sco ce fp) ([] ++ pinsAt fp s7.heap) H' b := fun hn b hb => ⟨hn b hb, (f11 b hb).2⟩
        have loop1 : codeAny (model X.prog X.w) X.A (.compLoop (dc2E kx vx ga ia gb ib fa fb sco po) 1 (.ref it1) (.ref D) ce)
            (fun r s' => match r with
              | .ok _ => ∃ m, m < n ∧ ∃ i H', Inv (X.blk s3 H3 sco ce fp) [] (wipe σ (own.map (·.2))) H' s' ∧ tn i s'.heap ∧ (∀ b ∈ fp, H' b = none) ∧ W i m H'
              | .error _ => False) s11 := by
          refine dc2_loop1 (fun k s' => ∃ j H', Inv (X.blk s3 H3 sco ce fp) ([] ++ pinsAt fp s7.heap) (wipe σ8 vs1) H' s' ∧ tn1 j s'.heap ∧ (∀ b ∈ fp1, H' b = none) ∧ W1 j k H') ?_ m1 ⟨0, H11, I11.weak (wipe_length _ _) (fun j v e => (wipe_some e).1), st11, fun b hb => (f11 b hb).1, w1⟩
          rintro k s12 ⟨j, H12, I12, st12, n12, w12⟩
          rcases turn1 j k H12 w12 with ⟨stop1, nx1⟩ | ⟨go1, Nx1, hNx1, step1⟩
          · refine thnF (T1.done (X.blk s3 H3 sco ce fp) rfl rfl rfl hc j _ s12 (wipe σ8 vs1) H12 (fun _ _ => False) I12 (ins n12) st12 stop1) fun r s13 ⟨hr, I13⟩ => ?_
            subst hr
            exact fin I13 (hl8.trans (wipe_length σ8 vs1).symm) hk9 nx1
          · refine thnF (T1.item (X.blk s3 H3 sco ce fp) rfl rfl rfl hc j _ s12 (wipe σ8 vs1) H12 (fun _ _ => False) I12 (ins n12) st12 go1) fun r s13 ⟨u1, hr, h13⟩ => ?_
            subst hr
            refine thnF h13 fun _ s14 ⟨x1, H14, I14, r14, y14, st14, n14⟩ => ?_
            have I14' := I14.pinned (ins n14) (T1.obj _ _ st14)
            refine thnF (pg1.run _ s14 (wipe σ8 vs1) H14 x1 u1 _ I14' r14 (step1 x1 H14 y14)) fun _ s15 ⟨σ15, H15, I15, hw15, q15⟩ => ?_
            refine thnF (pt1.run _ s15 σ15 H15 _ I15 q15) fun b1 s16 ⟨H16, I16, q16⟩ => ?_
            have fin1 : ∀ {s' : Shared} {H' : Hp}, Inv (X.blk s3 H3 sco ce fp) (([] ++ pinsAt fp s7.heap) ++ pinsAt fp1 s14.heap) σ15 H' s' → Nx1 H' → ∃ m, m < k ∧ ∃ j H', Inv (X.blk s3 H3 sco ce fp) ([] ++ pinsAt fp s7.heap) (wipe σ8 vs1) H' s' ∧ tn1 j s'.heap ∧ (∀ b ∈ fp1, H' b = none) ∧ W1 j m H' := fun {s' H'} I' nx => by
              obtain ⟨m', hm, w'⟩ := hNx1 H' nx
              have pin' : ∀ b ∈ fp1, ∀ o, s14.heap.get? b = some o → s'.heap.get? b = some o ∧ H' b = none := fun b hb o e =>
                have z := I'.pin (b, o) (List.mem_append_right _ (List.mem_append_right _ (mem_pinsAt hb e)))
                ⟨z.1, z.2.1⟩
              refine ⟨m', hm, j + 1, H', I'.unpinned.weak (by rw [← hw15, wipe_length]) (fun j v e => by rw [← hw15] at e; exact (wipe_some e).1), T1.keep _ _ _ st14 fun b hb o e => (pin' b hb o e).1, fun b hb => ?_, w'⟩
              obtain ⟨o, e, _⟩ := T1.obj _ _ st14 b hb
              exact (pin' b hb o e).2
            cases b1 with
            | false =>
              simp only [Bool.false_eq_true, if_false] at q16 ⊢
              exact fin1 I16 q16
            | true =>
              simp only [if_true] at q16 ⊢
              refine thnF (pk.run _ s16 σ15 H16 _ I16 q16) fun zk s17 ⟨yk, H17, I17, r17, q17⟩ => ?_
              refine thnF (pe.run _ s17 σ15 H17 _ I17 q17) fun zv s18 ⟨yv, H18, I18, r18, kvs, ky, ek, hD18, hz18, nx⟩ => ?_
              subst ek
              exact d_dictSet (X := X.blk s3 H3 sco ce fp) I18 hD18 hz18 r17 r18 fun s19 I19 => fin1 I19 nx
        exact dc2_start1 loop1 (T1.self X.A 0 _ _ _ st11 loop1)
  exact codeAny_compStart_dict loop (T.self X.A 0 _ _ _ st4 loop)
theorem pe_dc2 {kx vx ga ia gb ib : Expr} {fa fb : List Expr} {sco : Scope} {own : List (Str × Nat)} {vs1 : List Nat} {po : Pos} {wa wb : TI} {g g1 : TG} {ta tb : TT} {tk tv : TE} (hc : X.calm = true) (hN : X.N.Nodup) (hi : PI X ga ia wa) (ok : BlkOk X.N X.env.scope sco own) (hv : ∀ i ∈ vs1, i ∈ own.map (·.2))
    (hg : ∀ (s : Shared) (H : Hp) (C : Addr) (cl : List (Str × Addr)) (fp : List Addr), PG (X.blk s H sco (compEnvC sco cl C X.env) fp) ga g) (ht : ∀ (s : Shared) (H : Hp) (C : Addr) (cl : List (Str × Addr)) (fp : List Addr), PTs (X.blk s H sco (compEnvC sco cl C X.env) fp) fa ta)
    (hi1 : ∀ (s : Shared) (H : Hp) (C : Addr) (cl : List (Str × Addr)) (fp : List Addr), PI (X.blk s H sco (compEnvC sco cl C X.env) fp) gb ib wb)
    (hg1 : ∀ (s : Shared) (H : Hp) (C : Addr) (cl : List (Str × Addr)) (fp : List Addr), PG (X.blk s H sco (compEnvC sco cl C X.env) fp) gb g1) (ht1 : ∀ (s : Shared) (H : Hp) (C : Addr) (cl : List (Str × Addr)) (fp : List Addr), PTs (X.blk s H sco (compEnvC sco cl C X.env) fp) fb tb)
    (hk : ∀ (s : Shared) (H : Hp) (C : Addr) (cl : List (Str × Addr)) (fp : List Addr), PE (X.blk s H sco (compEnvC sco cl C X.env) fp) kx tk)
    (he : ∀ (s : Shared) (H : Hp) (C : Addr) (cl : List (Str × Addr)) (fp : List Addr), PE (X.blk s H sco (compEnvC sco cl C X.env) fp) vx tv)
    (hs : ∀ x, foldedSetIterable ia X.env x = pure x := by intro _; rfl) (hs1 : ∀ ev x, foldedSetIterable ib ev x = pure x := by intro _ _; rfl) :
    PE X (.DictComp kx vx [⟨ga, ia, fa, 0⟩, ⟨gb, ib, fb, 0⟩] sco po) (tDc2 wa g ta wb g1 tb tk tv (own.map (·.2)) vs1) := by
  refine ⟨fun pins s σ H Q I h => ?_⟩
  rw [arm_eval_DictComp]
  refine dc2_core hc hN I hi ok hv hg ht hk he hs hi1 hg1 ht1 hs1 h fun D C s' m H' I' q hn f => ⟨m, hn, fun h'' sb => ?_⟩
  obtain ⟨f0, f1, f2, f3, f4, f5⟩ := f
  exact ⟨.ref D, H', I'.turned (t' := s'.toks) (fun b o hb e => (sb.2 b hb).trans e) f0 f1 f3 f4 f5, rfl, q⟩
end
end LPW

/-! ## LpDict -/
/-! Dicts whose keys are ints: what is in them. -/
namespace LPW
open PySem PySem.Spec PyProof.Rows L2 Evl

/-- at a a dict that holds just the keys of which p says so -/
def DM (H : Hp) (a : Addr) (p : Int → Bool) : Prop := ∃ kvs : List (Key × V), H a = some (.dK kvs) ∧ ∀ n : Int, (valV kvs (.inl n)).isSome = p n
/-- its keys, in order, each once -/
def DK (H : Hp) (a : Addr) (ks : List Int) : Prop := ∃ kvs : List (Key × V), H a = some (.dK kvs) ∧ kvs.map (·.1) = ks.map Sum.inl ∧ ks.Nodup
theorem DM.up {H H' : Hp} {a : Addr} {p : Int → Bool} (h : DM H a p) (e : Ex H H') : DM H' a p := by
  obtain ⟨kvs, h1, h2⟩ := h
  exact ⟨kvs, e a _ h1, h2⟩
theorem DK.up {H H' : Hp} {a : Addr} {ks : List Int} (h : DK H a ks) (e : Ex H H') : DK H' a ks := by
  obtain ⟨kvs, h1, h2⟩ := h
  exact ⟨kvs, e a _ h1, h2⟩
theorem valV_keys {kvs : List (Key × V)} {ks : List Int} (h : kvs.map (·.1) = ks.map Sum.inl) (n : Int) : (valV kvs (.inl n)).isSome = decide (n ∈ ks) := by
  have inj : (Sum.inl n : Key) ∈ ks.map Sum.inl ↔ n ∈ ks := by
    rw [List.mem_map]
    constructor
    · rintro ⟨m, hm, e⟩
      cases e
      exact hm
    · intro hm
      exact ⟨n, hm, rfl⟩
  cases hv : valV kvs (.inl n) with
  | none =>
    have := valV_not hv
    rw [h, inj] at this
    rw [decide_eq_false this]
    rfl
  | some v =>
    have := valV_in hv
    rw [h, inj] at this
    rw [decide_eq_true this]
    rfl
theorem DK.dm {H : Hp} {a : Addr} {ks : List Int} (h : DK H a ks) : DM H a fun n => decide (n ∈ ks) := by
  obtain ⟨kvs, h1, h2, _⟩ := h
  exact ⟨kvs, h1, valV_keys h2⟩
theorem DM.to {H : Hp} {a : Addr} {p p' : Int → Bool} (h : DM H a p) (e : ∀ n, p n = p' n) : DM H a p' := by
  obtain ⟨kvs, h1, h2⟩ := h
  exact ⟨kvs, h1, fun n => (h2 n).trans (e n)⟩
section
variable {σ : L2.St} {B : Hp} {ty td : TE}
theorem den_din {i : Nat} {a : Addr} {n : Int} {p : Int → Bool} (hk : Den ty σ B (.int n)) (hi : σ[i]? = some (some (.ref a))) (hd : DM B a p) : Den (tDIn ty (tVar i)) σ B (.bool (p n)) := fun S H1 T e Q q =>
  hk S H1 T e _ fun x H2 e2 hx => by
    cases hx
    obtain ⟨kvs, h1, h2⟩ := hd.up (e.trans (hide_up e2))
    refine ⟨.ref a, hi, a, valV kvs (.inl n), rfl, DGet.k (k := .inl n) (hide_le a _ h1), ?_⟩
    rw [h2 n]
    exact q _ H2 e2 (.bl _)
theorem den_dnin {i : Nat} {a : Addr} {n : Int} {p : Int → Bool} (hk : Den ty σ B (.int n)) (hi : σ[i]? = some (some (.ref a))) (hd : DM B a p) : Den (tDNotIn ty (tVar i)) σ B (.bool (!p n)) := fun S H1 T e Q q =>
  hk S H1 T e _ fun x H2 e2 hx => by
    cases hx
    obtain ⟨kvs, h1, h2⟩ := hd.up (e.trans (hide_up e2))
    refine ⟨.ref a, hi, a, valV kvs (.inl n), rfl, DGet.k (k := .inl n) (hide_le a _ h1), ?_⟩
    rw [h2 n]
    exact q _ H2 e2 (.bl _)
end
/-- an expression that makes a dict -/
def DenM (te : TE) (σ : L2.St) (B : Hp) (p : Int → Bool) : Prop :=
  ∀ S H1, Tr S H1 → Ex B (hide S H1) → ∀ Q : VK, (∀ a H2, Ex H1 H2 → DM (hide S H2) a p → Q (.ref a) H2) → te σ H1 Q
theorem q_setM {i : Nat} {te : TE} {tz : TS} {D : Ends} {σ : L2.St} {B H : Hp} {S : List Addr} {p : Int → Bool} (T : Tr S H) (e : Ex B (hide S H)) (h : DenM te σ B p) (k : ∀ a H1, Ex H H1 → DM (hide S H1) a p → tz D (σ.set i (some (.ref a))) H1) : tSeq (tAsg te (gName i)) tz D σ H :=
  h S H T e _ fun a H1 e1 hv => k a H1 e1 hv
section
variable {α β : Type} {wi wb : TI} {g g1 : TG} {tt ta tb : TT} {te tk tv : TE} {vs vs1 : List Nat} {σ : L2.St} {B : Hp}
theorem put_dm {kvs : List (Key × V)} {p : Int → Bool} (h : ∀ n : Int, (valV kvs (.inl n)).isSome = p n) (m : Int) (y : V) : ∀ n : Int, (valV (putK kvs (.inl m) y) (.inl n)).isSome = (p n || decide (n = m)) := fun n => by
  rw [valV_put]
  by_cases e : n = m
  · subst e
    rw [if_pos rfl, decide_eq_true rfl, Bool.or_true]
    rfl
  · rw [if_neg (fun z => e (Sum.inl.inj z)), h n, decide_eq_false e, Bool.or_false]
theorem putK_len (kvs : List (Key × V)) (k : Key) (y : V) : (putK kvs k y).length ≤ kvs.length + 1 := length_putK kvs k y
/-- {k: v for a in xs} -/
theorem den_dc (xs : List α) (enc : α → PyData) (P : α → Hp → L2.St → Prop) (f : α → Int) (d : PyData) (hi : ItD wi σ B (xs.map enc)) (hz : xs.length ≤ 100000)
    (ha : ∀ a ∈ xs, AsgD g (wipe σ vs) (enc a) (P a))
    (hb : ∀ a ∈ xs, ∀ B1 σ1, Ex B B1 → P a B1 σ1 → wipe σ1 vs = wipe σ vs ∧ Den tk σ1 B1 (.int (f a)) ∧ Den tv σ1 B1 d) :
    DenM (tDc wi g tYes tk tv vs) σ B (fun n => decide (n ∈ xs.map f)) := fun S H1 T e Q q => by
  refine hi S H1 T e _ fun J H2 e2 w D hD => ?_
  rw [List.length_map] at w
  let Pv : Nat → Hp → Prop := fun i H' => Ex H2 H' ∧ ∃ kvs : List (Key × V), H' D = some (.dK kvs) ∧ kvs.length ≤ i ∧ ∀ n : Int, (valV kvs (.inl n)).isSome = decide (n ∈ (xs.take i).map f)
  refine ⟨fun i m H => m = xs.length - i ∧ i ≤ xs.length ∧ Pv i H, ⟨xs.length, by simp, Nat.zero_le _, Ex.new hD, [], upd_same, Nat.le_refl _, fun n => by simp [valV_nil]⟩, ?_⟩
  rintro i m H ⟨rfl, hile, e3, kvs, hkv, hlen, hmem⟩
  by_cases hlt : i < xs.length
  · refine .inr ⟨w.goes i H hlt (hide_le.trans e3), Pv (i + 1), fun H' p' => ⟨xs.length - (i + 1), by omega, rfl, hlt, p'⟩, fun x H' y => ?_⟩
    obtain ⟨e4, y⟩ := w.yields i H x H' hlt (hide_le.trans e3) y
    have hget : xs[i]? = some xs[i] := List.getElem?_eq_getElem hlt
    have hm : xs[i] ∈ xs := List.getElem_mem hlt
    have T3 : Tr (D :: S) H := (T.up (e2.trans e3)).cons hkv
    have hx := y (D :: S) T3 (hide_open hD e3) (enc xs[i]) (by rw [List.getElem?_map, hget]; rfl)
    have eB : Ex B (hide (D :: S) H') := (e.trans (hide_up e2)).trans (hide_open hD (e3.trans e4))
    refine ha _ hm (D :: S) H' x (T3.up e4) hx _ fun σ' hP => ?_
    obtain ⟨hw, hk, hv⟩ := hb _ hm _ σ' eB hP
    refine ⟨hw, ?_⟩
    show tk σ' H' _
    refine hk (D :: S) H' (T3.up e4) (Ex.refl _) _ fun z H3 e5 hz' => ?_
    cases hz'
    refine hv (D :: S) H3 ((T3.up e4).up e5) (hide_up e5) _ fun z2 H4 e6 _ => ?_
    have e46 := (e4.trans e5).trans e6
    refine ⟨kvs, .inl (f xs[i]), rfl, e46 D _ hkv, sz_lt (by omega), Ex.mut (e3.trans e46) hD, _, upd_same, ?_, fun n => ?_⟩
    · have := putK_len kvs (.inl (f xs[i])) z2
      omega
    · rw [put_dm hmem, List.take_add_one, hget, List.map_append, Bool.eq_iff_iff]
      simp
  · have ei : i = xs.length := by omega
    subst ei
    rw [List.take_length] at hmem
    refine .inl ⟨w.stops H (hide_le.trans e3), q D H (e2.trans e3) ⟨kvs, ?_, hmem⟩⟩
    rw [hide_at ((T.up e2).not hD)]
    exact hkv
/-- {k: v for a in xs for b in ys a} -/
theorem den_dc2 (xs : List α) (enc : α → PyData) (ys : α → List β) (encb : β → PyData) (P : α → Hp → L2.St → Prop) (f : β → Int) (d : PyData) (M : Nat) (hi : ItD wi σ B (xs.map enc)) (hM : ∀ i, i ≤ xs.length → ((xs.take i).map fun a => (ys a).length).sum ≤ M) (hz : M ≤ 50000)
    (ha : ∀ a ∈ xs, AsgD g (wipe σ vs) (enc a) (P a))
    (hb : ∀ a ∈ xs, ∀ B1 σ1, Ex B B1 → P a B1 σ1 → wipe σ1 vs = wipe σ vs ∧ ItD wb σ1 B1 ((ys a).map encb) ∧ ∃ P1 : β → Hp → L2.St → Prop,
      (∀ b ∈ ys a, AsgD g1 (wipe σ1 vs1) (encb b) (P1 b)) ∧ ∀ b ∈ ys a, ∀ B2 σ2, Ex B1 B2 → P1 b B2 σ2 → wipe σ2 vs1 = wipe σ1 vs1 ∧ Den tk σ2 B2 (.int (f b)) ∧ Den tv σ2 B2 d) :
    DenM (tDc2 wi g tYes wb g1 tYes tk tv vs vs1) σ B (fun n => decide (n ∈ (xs.map fun a => (ys a).map f).flatten)) := fun S H1 T e Q q => by
  refine hi S H1 T e _ fun J H2 e2 w D hD => ?_
  rw [List.length_map] at w
  let Pv : Nat → Hp → Prop := fun i H' => Ex H2 H' ∧ ∃ kvs : List (Key × V), H' D = some (.dK kvs) ∧ kvs.length ≤ ((xs.take i).map fun a => (ys a).length).sum ∧ ∀ n : Int, (valV kvs (.inl n)).isSome = decide (n ∈ ((xs.take i).map fun a => (ys a).map f).flatten)
  refine ⟨fun i m H => m = xs.length - i ∧ i ≤ xs.length ∧ Pv i H, ⟨xs.length, by simp, Nat.zero_le _, Ex.new hD, [], upd_same, Nat.le_refl _, fun n => by simp [valV_nil]⟩, ?_⟩
  rintro i m H ⟨rfl, hile, e3, kvs, hkv, hlen, hmem⟩
  by_cases hlt : i < xs.length
  · refine .inr ⟨w.goes i H hlt (hide_le.trans e3), Pv (i + 1), fun H' p' => ⟨xs.length - (i + 1), by omega, rfl, hlt, p'⟩, fun x H' y => ?_⟩
    obtain ⟨e4, y⟩ := w.yields i H x H' hlt (hide_le.trans e3) y
    have hget : xs[i]? = some xs[i] := List.getElem?_eq_getElem hlt
    have hm : xs[i] ∈ xs := List.getElem_mem hlt
    have T3 : Tr (D :: S) H := (T.up (e2.trans e3)).cons hkv
    have hx := y (D :: S) T3 (hide_open hD e3) (enc xs[i]) (by rw [List.getElem?_map, hget]; rfl)
    have eB : Ex B (hide (D :: S) H') := (e.trans (hide_up e2)).trans (hide_open hD (e3.trans e4))
    refine ha _ hm (D :: S) H' x (T3.up e4) hx _ fun σ' hP => ?_
    obtain ⟨hw, hib, P1, hab, hbb⟩ := hb _ hm _ σ' eB hP
    have hsum : ((xs.take (i + 1)).map fun a => (ys a).length).sum = ((xs.take i).map fun a => (ys a).length).sum + (ys xs[i]).length := by
      rw [List.take_add_one, hget, List.map_append, List.sum_append]
      simp
    have hflat : ((xs.take (i + 1)).map fun a => (ys a).map f).flatten = ((xs.take i).map fun a => (ys a).map f).flatten ++ (ys xs[i]).map f := by
      rw [List.take_add_one, hget, List.map_append, List.flatten_append]
      simp
    have hMi := hM (i + 1) hlt
    refine ⟨hw, ?_⟩
    show wb σ' H' _
    refine hib (D :: S) H' (T3.up e4) (Ex.refl _) _ fun J1 H3 e5 w1 => ?_
    rw [List.length_map] at w1
    let Pu : Nat → Hp → Prop := fun j H' => Ex H3 H' ∧ ∃ kvs : List (Key × V), H' D = some (.dK kvs) ∧ kvs.length ≤ ((xs.take i).map fun a => (ys a).length).sum + j ∧ ∀ n : Int, (valV kvs (.inl n)).isSome = decide (n ∈ ((xs.take i).map fun a => (ys a).map f).flatten ++ ((ys xs[i]).take j).map f)
    -- the inner walk changes the dict at D: what it stands on does not see D
    refine ⟨fun j k H => k = (ys xs[i]).length - j ∧ j ≤ (ys xs[i]).length ∧ (∃ G, Ex (hide (D :: S) H3) (hide (D :: S) H) ∧ Ex H2 H ∧ G = H) ∧ ∃ kvs : List (Key × V), H D = some (.dK kvs) ∧ kvs.length ≤ ((xs.take i).map fun a => (ys a).length).sum + j ∧ ∀ n : Int, (valV kvs (.inl n)).isSome = decide (n ∈ ((xs.take i).map fun a => (ys a).map f).flatten ++ ((ys xs[i]).take j).map f),
      ⟨(ys xs[i]).length, by simp, Nat.zero_le _, ⟨_, Ex.refl _, (e3.trans e4).trans e5, rfl⟩, kvs, (e4.trans e5) D _ hkv, by omega, fun n => by rw [hmem n]; simp⟩, ?_⟩
    rintro j k Hj ⟨rfl, hjle, ⟨_, e6, e62, _⟩, kvj, hkj, hlj, hmj⟩
    have e6' : Ex (hide (D :: S) H3) Hj := e6.trans hide_le
    by_cases hjlt : j < (ys xs[i]).length
    · refine .inr ⟨w1.goes j Hj hjlt e6', _, fun H' p' => ⟨(ys xs[i]).length - (j + 1), by omega, rfl, hjlt, p'⟩, fun x1 Hj' y1 => ?_⟩
      obtain ⟨e7, y1⟩ := w1.yields j Hj x1 Hj' hjlt e6' y1
      have hgetj : (ys xs[i])[j]? = some (ys xs[i])[j] := List.getElem?_eq_getElem hjlt
      have hmemj : (ys xs[i])[j] ∈ ys xs[i] := List.getElem_mem hjlt
      have Tj : Tr (D :: S) Hj := (T.up (e2.trans e62)).cons hkj
      have hx1 := y1 (D :: S) Tj e6 (encb (ys xs[i])[j]) (by rw [List.getElem?_map, hgetj]; rfl)
      have eB1 : Ex (hide (D :: S) H') (hide (D :: S) Hj') := (hide_up e5).trans (e6.trans (hide_up e7))
      refine hab _ hmemj (D :: S) Hj' x1 (Tj.up e7) hx1 _ fun σ2 hP1 => ?_
      obtain ⟨hw1, hk, hv⟩ := hbb _ hmemj _ σ2 eB1 hP1
      refine ⟨hw1, ?_⟩
      show tk σ2 Hj' _
      refine hk (D :: S) Hj' (Tj.up e7) (Ex.refl _) _ fun z Hk e8 hz' => ?_
      cases hz'
      refine hv (D :: S) Hk ((Tj.up e7).up e8) (hide_up e8) _ fun z2 Hl e9 _ => ?_
      have e79 := (e7.trans e8).trans e9
      refine ⟨kvj, .inl (f (ys xs[i])[j]), rfl, e79 D _ hkj, sz_lt (by omega), ⟨_, ?_, Ex.mut (e62.trans e79) hD, rfl⟩, _, upd_same, ?_, fun n => ?_⟩
      · rw [hide_upd]
        exact e6.trans (hide_up e79)
      · have := putK_len kvj (.inl (f (ys xs[i])[j])) z2
        omega
      · rw [put_dm hmj, List.take_add_one, hgetj, List.map_append, Bool.eq_iff_iff]
        simp [or_assoc]
    · have ej : j = (ys xs[i]).length := by omega
      subst ej
      rw [List.take_length] at hmj
      refine .inl ⟨w1.stops Hj e6', e62, kvj, hkj, by omega, fun n => ?_⟩
      rw [hmj n, hflat]
  · have ei : i = xs.length := by omega
    subst ei
    rw [List.take_length] at hmem
    refine .inl ⟨w.stops H (hide_le.trans e3), q D H (e2.trans e3) ⟨kvs, ?_, hmem⟩⟩
    rw [hide_at ((T.up e2).not hD)]
    exact hkv
end
end LPW

/-! ## LpLc2 -/
/-! A list comprehension with two fors, by data. -/
namespace LPW
open PySem PySem.Spec PyProof.Rows L2 Evl
theorem sum_le {α β : Type} {ys : α → List β} {m : Nat} : ∀ {xs : List α}, (∀ a ∈ xs, (ys a).length ≤ m) → (xs.map fun a => (ys a).length).sum ≤ xs.length * m
  | [], _ => by simp
  | a :: xs, h => by
    have h1 := h a List.mem_cons_self
    have h2 := sum_le (xs := xs) fun b hb => h b (List.mem_cons_of_mem _ hb)
    rw [List.map_cons, List.sum_cons, List.length_cons, Nat.add_mul, Nat.one_mul]
    omega
theorem sum_take_le {α β : Type} {ys : α → List β} {m i : Nat} {xs : List α} (h : ∀ a ∈ xs, (ys a).length ≤ m) : ((xs.take i).map fun a => (ys a).length).sum ≤ xs.length * m := by
  have h1 := sum_le (ys := ys) (m := m) (xs := xs.take i) fun a ha => h a (List.mem_of_mem_take ha)
  refine Nat.le_trans h1 (Nat.mul_le_mul_right _ ?_)
  rw [List.length_take]
  exact Nat.min_le_right _ _
section
variable {α β : Type} {wi wb : TI} {g g1 : TG} {tb : TT} {te : TE} {vs vs1 : List Nat} {σ : L2.St} {B : Hp}
theorem den_lc2 (xs : List α) (enc : α → PyData) (ys : α → List β) (encb : α → β → PyData) (P : α → Hp → L2.St → Prop) (p : α → β → Bool) (f : α → β → PyData) (m : Nat)
    (hi : ItD wi σ B (xs.map enc)) (hm : ∀ a ∈ xs, (ys a).length ≤ m) (hz : xs.length * m ≤ 50000)
    (ha : ∀ a ∈ xs, AsgD g (wipe σ vs) (enc a) (P a))
    (hb : ∀ a ∈ xs, ∀ B1 σ1, Ex B B1 → P a B1 σ1 → wipe σ1 vs = wipe σ vs ∧ ItD wb σ1 B1 ((ys a).map (encb a)) ∧ ∃ P1 : β → Hp → L2.St → Prop,
      (∀ b ∈ ys a, AsgD g1 (wipe σ1 vs1) (encb a b) (P1 b)) ∧ ∀ b ∈ ys a, ∀ B2 σ2, Ex B1 B2 → P1 b B2 σ2 → wipe σ2 vs1 = wipe σ1 vs1 ∧ Tst tb σ2 B2 (p a b) ∧ (p a b = true → Den te σ2 B2 (f a b))) :
    Den (tLc2 wi g tYes wb g1 tb te vs vs1) σ B (.list (xs.map fun a => ((ys a).filter (p a)).map (f a)).flatten) := fun S H1 T e Q q => by
  refine hi S H1 T e _ fun J H2 e2 w D hD => ?_
  rw [List.length_map] at w
  let len : Nat → Nat := fun i => ((xs.take i).map fun a => (ys a).length).sum
  have hM : ∀ i, len i ≤ 50000 := fun i => Nat.le_trans (sum_take_le hm) hz
  let out : Nat → List PyData := fun i => ((xs.take i).map fun a => ((ys a).filter (p a)).map (f a)).flatten
  refine ⟨fun i m H => m = xs.length - i ∧ i ≤ xs.length ∧ Ex H2 H ∧ ∃ acc, H D = some (.lst acc) ∧ acc.length ≤ len i ∧ DnAll (hide (D :: S) H) acc (out i), ⟨xs.length, by simp, Nat.zero_le _, Ex.new hD, [], upd_same, Nat.zero_le _, .nil⟩, ?_⟩
  rintro i m0 H ⟨rfl, hile, e3, acc, hacc, hlen, hd⟩
  by_cases hlt : i < xs.length
  · refine .inr ⟨w.goes i H hlt (hide_le.trans e3), _, fun H' p' => ⟨xs.length - (i + 1), by omega, rfl, hlt, p'⟩, fun x H' y => ?_⟩
    obtain ⟨e4, y⟩ := w.yields i H x H' hlt (hide_le.trans e3) y
    have hget : xs[i]? = some xs[i] := List.getElem?_eq_getElem hlt
    have hmem : xs[i] ∈ xs := List.getElem_mem hlt
    have T3 : Tr (D :: S) H := (T.up (e2.trans e3)).cons hacc
    have hx := y (D :: S) T3 (hide_open hD e3) (enc xs[i]) (by rw [List.getElem?_map, hget]; rfl)
    have eB : Ex B (hide (D :: S) H') := (e.trans (hide_up e2)).trans (hide_open hD (e3.trans e4))
    refine ha _ hmem (D :: S) H' x (T3.up e4) hx _ fun σ' hP => ?_
    obtain ⟨hw, hib, P1, hab, hbb⟩ := hb _ hmem _ σ' eB hP
    have hsum : len (i + 1) = len i + (ys xs[i]).length := by
      show ((xs.take (i + 1)).map fun a => (ys a).length).sum = _
      rw [List.take_add_one, hget, List.map_append, List.sum_append]
      simp [len]
    have hflat : out (i + 1) = out i ++ ((ys xs[i]).filter (p xs[i])).map (f xs[i]) := by
      show ((xs.take (i + 1)).map fun a => ((ys a).filter (p a)).map (f a)).flatten = _
      rw [List.take_add_one, hget, List.map_append, List.flatten_append]
      simp [out]
    have hMi := hM (i + 1)
    refine ⟨hw, ?_⟩
    show wb σ' H' _
    refine hib (D :: S) H' (T3.up e4) (Ex.refl _) _ fun J1 H3 e5 w1 => ?_
    rw [List.length_map] at w1
    refine ⟨fun j k H => k = (ys xs[i]).length - j ∧ j ≤ (ys xs[i]).length ∧ Ex (hide (D :: S) H3) (hide (D :: S) H) ∧ Ex H2 H ∧ ∃ acc, H D = some (.lst acc) ∧ acc.length ≤ len i + j ∧ DnAll (hide (D :: S) H) acc (out i ++ (((ys xs[i]).take j).filter (p xs[i])).map (f xs[i])),
      ⟨(ys xs[i]).length, by simp, Nat.zero_le _, Ex.refl _, (e3.trans e4).trans e5, acc, (e4.trans e5) D _ hacc, by omega, by simpa using hd.up (hide_up (e4.trans e5))⟩, ?_⟩
    rintro j k Hj ⟨rfl, hjle, e6, e62, acj, hkj, hlj, hdj⟩
    have e6' : Ex (hide (D :: S) H3) Hj := e6.trans hide_le
    by_cases hjlt : j < (ys xs[i]).length
    · refine .inr ⟨w1.goes j Hj hjlt e6', _, fun H' p' => ⟨(ys xs[i]).length - (j + 1), by omega, rfl, hjlt, p'⟩, fun x1 Hj' y1 => ?_⟩
      obtain ⟨e7, y1⟩ := w1.yields j Hj x1 Hj' hjlt e6' y1
      have hgetj : (ys xs[i])[j]? = some (ys xs[i])[j] := List.getElem?_eq_getElem hjlt
      have hmemj : (ys xs[i])[j] ∈ ys xs[i] := List.getElem_mem hjlt
      have Tj : Tr (D :: S) Hj := (T.up (e2.trans e62)).cons hkj
      have hx1 := y1 (D :: S) Tj e6 (encb xs[i] (ys xs[i])[j]) (by rw [List.getElem?_map, hgetj]; rfl)
      have eB1 : Ex (hide (D :: S) H') (hide (D :: S) Hj') := (hide_up e5).trans (e6.trans (hide_up e7))
      refine hab _ hmemj (D :: S) Hj' x1 (Tj.up e7) hx1 _ fun σ2 hP1 => ?_
      obtain ⟨hw1, htst, hel⟩ := hbb _ hmemj _ σ2 eB1 hP1
      refine ⟨hw1, htst (D :: S) Hj' (Tj.up e7) (Ex.refl _) _ fun Hk e8 => ?_⟩
      have hts := take_map_snoc (p := p xs[i]) (f := f xs[i]) hgetj
      cases hp : p xs[i] (ys xs[i])[j] with
      | false =>
        rw [hp, if_neg Bool.false_ne_true] at hts
        rw [if_neg Bool.false_ne_true]
        have e78 := e7.trans e8
        refine ⟨e6.trans (hide_up e78), e62.trans e78, acj, e78 D _ hkj, by omega, ?_⟩
        rw [hts]
        exact hdj.up (hide_up e78)
      | true =>
        rw [hp, if_pos rfl] at hts
        rw [if_pos rfl]
        refine hel hp (D :: S) Hk ((Tj.up e7).up e8) (hide_up e8) _ fun z Hl e9 hz' => ?_
        have e79 := (e7.trans e8).trans e9
        refine ⟨acj, e79 D _ hkj, sz_lt (by omega), ?_, Ex.mut (e62.trans e79) hD, acj ++ [z], upd_same, ?_, ?_⟩
        · rw [hide_upd]
          exact e6.trans (hide_up e79)
        · rw [List.length_append, List.length_singleton]
          omega
        · rw [hide_upd, hts, ← List.append_assoc]
          exact (hdj.up (hide_up e79)).snoc hz'
    · have ej : j = (ys xs[i]).length := by omega
      subst ej
      rw [List.take_length] at hdj
      refine .inl ⟨w1.stops Hj e6', e62, acj, hkj, by omega, ?_⟩
      rw [hflat]
      exact hdj
  · have ei : i = xs.length := by omega
    subst ei
    have eo : out xs.length = (xs.map fun a => ((ys a).filter (p a)).map (f a)).flatten := by
      show ((xs.take xs.length).map fun a => ((ys a).filter (p a)).map (f a)).flatten = _
      rw [List.take_length]
    rw [eo] at hd
    refine .inl ⟨w.stops H (hide_le.trans e3), q _ H (e2.trans e3) (.lst (xs := acc) ?_ (hd.up hide_less))⟩
    rw [hide_at ((T.up e2).not hD)]
    exact hacc
end
end LPW

/-! ## LpW2 -/
/-! differing, leads_to, meets, trimmed. -/
namespace LPW
open PySem PySem.Spec PyProof.Rows L2 Evl

section
variable {K : PySem.W.Frag} {σ : L2.St} {B : Hp} {te : TE} {ds : List PyData}
theorem DnAll.init {H : Hp} {vs : List V} (h : DnAll H vs ds) : DnAll H vs.dropLast ds.dropLast := by
  rw [List.dropLast_eq_take, List.dropLast_eq_take, h.len]
  exact h.take _
theorem cutV_init (xs : List V) : cutV xs none (some (-1)) = xs.dropLast := by
  unfold cutV
  rw [HT.sIx_none]
  show (xs.drop 0).take (HT.sIx xs.length xs.length (some (-1)) - 0) = _
  rw [List.drop_zero, Nat.sub_zero, List.dropLast_eq_take]
  congr 1
  show (if (-1 : Int) < 0 then ((-1 : Int) + (xs.length : Int)).toNat else min (-1 : Int).toNat xs.length) = _
  rw [if_pos (by decide)]
  omega
theorem den_init (h : Den te σ B (.list ds)) : Den (tSl (rSlL K) te tNoPart (tPart (tUn (rU fun i => .int (-i)) (tC (.int 1))))) σ B (.list ds.dropLast) := fun S H1 T e Q q =>
  h S H1 T e _ fun v H2 e2 hv => by
    cases hv with
    | @lst a xs _ ha hx =>
      refine ⟨1, rfl, -1, rfl, a, xs, rfl, .inl (.inl (hide_le a _ ha)), fun p hp => ?_⟩
      rw [cutV_init]
      exact q _ _ (e2.trans (Ex.new hp)) (.lst (hide_new (T.up e2) hp) (hx.init.up (hide_up (Ex.new hp))))
theorem cutV_tail (xs : List V) : cutV xs (some 1) none = xs.drop 1 := by
  unfold cutV
  rw [show HT.sIx xs.length 0 (some 1) = min 1 xs.length from HT.sIx_nat xs.length 0 1, HT.sIx_none]
  cases xs with
  | nil => rfl
  | cons x r =>
    rw [show min 1 (x :: r).length = 1 by rw [List.length_cons]; omega]
    show (List.take ((x :: r).length - 1) r) = r
    rw [List.length_cons, Nat.add_sub_cancel]
    exact List.take_length
theorem den_tail (h : Den te σ B (.tuple ds)) (hne : 1 ≤ ds.length) : Den (tSl (rSlT K) te (tPart (tC (.int 1))) tNoPart) σ B (.tuple (ds.drop 1)) := fun S H1 T e Q q =>
  h S H1 T e _ fun v H2 e2 hv => by
    cases hv with
    | @tup a xs _ ha hx =>
      refine ⟨1, rfl, a, xs, rfl, .inl (.inl (hide_le a _ ha)), ?_, fun p hp => ?_⟩
      · rintro ⟨h1, _⟩
        rw [show HT.sIx xs.length 0 (some 1) = min 1 xs.length from HT.sIx_nat xs.length 0 1, hx.len] at h1
        omega
      · rw [cutV_tail]
        exact q _ _ (e2.trans (Ex.new hp)) (.tup (hide_new (T.up e2) hp) ((hx.drop 1).up (hide_up (Ex.new hp))))
end

section
variable {P : Program} {w : World} {K : PySem.W.Frag} {mg : Str → Option Value} {base : Heap}
/-! ### differing -/
def RDiffering : List PyData → PyData → Prop := fun ds d => ∃ h wd s g, PicOk h wd ∧ ds = [picD h wd s, picD h wd g] ∧ d = .list ((LP.differ h wd s g).map cellD)
theorem differ_flat (h wd : Nat) (s g : LP.Pic) : (LP.differ h wd s g).map cellD =
    ((List.range h).map fun (i : Nat) => ((List.range wd).filter fun j => s i j != g i j).map fun (j : Nat) => PyData.tuple [.int (i : Int), .int (j : Int)]).flatten := by
  unfold LP.differ
  rw [List.map_flatMap, List.flatMap_def]
  congr 1
  refine List.map_congr_left fun i _ => ?_
  rw [List.map_map]
  rfl
theorem sgn_ne (a b : Bool) : (!decide (sgn a = sgn b)) = (b != a) := by cases a <;> cases b <;> decide
theorem ok_differing (T : Tx mg) (h : At K mg "differing" s_differing ["start", "goal"]) : Prom P w K mg base "differing" ["start", "goal"] 1 (SpR RDiffering) := by
  refine prom_R h sc_differing (fun ds d hR => by obtain ⟨_, _, _, _, _, rfl, _⟩ := hR; rfl) fun f cdv A outer s H vs Q E S ds d hr Tr1 hv hR q => ?_
  obtain ⟨hh, wd, st, g, ⟨k1, k2, k3, k4⟩, rfl, rfl⟩ := hR
  cases hv with
  | cons h1 t =>
    cases t with
    | cons h2 t =>
      cases t
      refine ⟨_, (pss_one (ps_ret (pe_lc2 (own := [("at", 2), ("row", 3), ("spot", 4), ("sign", 5)]) (vs1 := [4, 5]) rfl sc_differing.nd (pi_enumK (K := K) (by rfl) T.enumerate_ (pa_cons (pv 0) pa_nil)) (blkOk_by (N := n_differing) (sc := defScope s_differing) (by decide +kernel)) (by decide) (fun _ _ _ _ _ => (pg_tupK (K := K) (n := 2) (by rfl) (pgs_cons (pg_name (i := 2) sc_differing.nd rfl (.inl rfl)) (pgs_cons (pg_name (i := 3) sc_differing.nd rfl (.inl rfl)) pgs_nil)))) (fun _ _ _ _ _ => pts_nil) (fun _ _ _ _ _ => (pi_enumK (K := K) (by rfl) T.enumerate_ (pa_cons (pv 3) pa_nil))) (fun _ _ _ _ _ => (pg_tupK (K := K) (n := 2) (by rfl) (pgs_cons (pg_name (i := 4) sc_differing.nd rfl (.inl rfl)) (pgs_cons (pg_name (i := 5) sc_differing.nd rfl (.inl rfl)) pgs_nil)))) (fun _ _ _ _ _ => pts_one (pt_cmpR (k_ne (K := K) hr.units) (pe_ix (k_ix (K := K)) (pe_ix (k_ix (K := K)) (pv 1) (pv 2) (fun _ _ => rfl)) (pv 4) (fun _ _ => rfl)) (pv 5) (nomark _))) (fun _ _ _ _ _ => (pe_tup (pa_cons (pv 2) (pa_cons (pv 4) pa_nil))))))), ?_⟩
      refine s_retD Tr1 (Ex.refl _) ((den_lc2 (List.range hh) (fun (i : Nat) => PyData.tuple [.int (i : Int), .str (rowS wd (st i))]) (fun _ => List.range wd) (fun i (j : Nat) => PyData.tuple [.int (j : Int), .str (sgn (st i j))]) _
        (fun i j => st i j != g i j) (fun (i j : Nat) => .tuple [.int (i : Int), .int (j : Int)]) wd (it_enum_pic (den_var rfl h1)) (fun _ _ => by rw [List.length_range]; exact Nat.le_refl _) ?_ (fun _ _ => asg_pair) ?_).to (by rw [differ_flat])) fun x H1 e hx => q x H1 e hx
      · rw [List.length_range]
        exact Nat.le_trans (Nat.mul_le_mul k2 k4) (by decide)
      · rintro i hi B1 σ1 eB ⟨x, y, hx, hy, rfl⟩
        have hi' := List.mem_range.mp hi
        refine ⟨rfl, it_enum_row (den_var rfl hy), _, fun _ _ => asg_pair, ?_⟩
        rintro j hj B2 σ2 eB2 ⟨z, u, hz, hu, rfl⟩
        have hj' := List.mem_range.mp hj
        refine ⟨rfl, (tst_test (den_op (den_sign (den_row (den_var rfl (h2.up (eB.trans eB2))) (den_var rfl (hx.up eB2)) hi') (den_var rfl hz) k4 hj') (den_var rfl hu) rd_neS)).to (sgn_ne _ _), fun _ => ?_⟩
        exact den_tup (dena_cons (den_var rfl (hx.up eB2)) (dena_cons (den_var rfl hz) dena_nil)) (by show 2 ≤ 100000; decide)

/-! ### leads_to -/
def RLeads : List PyData → PyData → Prop := fun ds d => ∃ h wd c, ∃ l : Nat, PicOk h wd ∧ l < h + wd ∧ ds = [picD h wd c, .int (l : Int)] ∧ d = .list (natL (LP.leads h wd c l))
theorem sgn_b (a : Bool) : (!decide (sgn a = ("#" : Str))) = !a := by cases a <;> decide
theorem sgn_b' (a : Bool) : decide (sgn a = ("#" : Str)) = a := by cases a <;> decide
theorem ok_leads_to (T : Tx mg) (h : At K mg "leads_to" s_leads_to ["picture", "line"]) : Prom P w K mg base "leads_to" ["picture", "line"] 1 (SpR RLeads) := by
  refine prom_R h sc_leads_to (fun ds d hR => by obtain ⟨_, _, _, _, _, _, rfl, _⟩ := hR; rfl) fun f cdv A outer s H vs Q E S ds d hr Tr1 hv hR q => ?_
  obtain ⟨hh, wd, c, l, ⟨k1, k2, k3, k4⟩, hl, rfl, rfl⟩ := hR
  cases hv with
  | cons h1 t =>
    cases t with
    | cons h2 t =>
      cases t
      refine ⟨_, (pss_cons (ps_set (i := 2) sc_leads_to.nd rfl (.inr rfl) (pe_callB (k_len (K := K)) (by rfl) T.len_ (by decide +kernel) (pa_cons (pv 0) pa_nil)))
      (pss_cons (ps_if (pt_cmpR op_ltA (pv 1) (pv 2) (nomark _)) (pss_one (ps_ret (pe_lc (own := [("at", 3), ("sign", 4)])  rfl sc_leads_to.nd (pi_enumK (K := K) (by rfl) T.enumerate_ (pa_cons (pe_ix (k_ix (K := K)) (pv 0) (pv 1) (fun _ _ => rfl)) pa_nil)) (blkOk_by (N := n_leads_to) (sc := defScope s_leads_to) (by decide +kernel)) (fun _ _ _ _ _ => (pg_tupK (K := K) (n := 2) (by rfl) (pgs_cons (pg_name (i := 3) sc_leads_to.nd rfl (.inl rfl)) (pgs_cons (pg_name (i := 4) sc_leads_to.nd rfl (.inl rfl)) pgs_nil)))) (fun _ _ _ _ _ => pts_one (pt_cmpR (k_ne (K := K) hr.units) (pv 4) (pe_globS T.BLACK (by rfl)) (nomark _))) (fun _ _ _ _ _ => (pe_op op_addA (pv 2) (pv 3)))))) pss_nil)
      (pss_one (ps_ret (pe_lc (own := [("at", 3), ("row", 5)])  rfl sc_leads_to.nd (pi_enumK (K := K) (by rfl) T.enumerate_ (pa_cons (pv 0) pa_nil)) (blkOk_by (N := n_leads_to) (sc := defScope s_leads_to) (by decide +kernel)) (fun _ _ _ _ _ => (pg_tupK (K := K) (n := 2) (by rfl) (pgs_cons (pg_name (i := 3) sc_leads_to.nd rfl (.inl rfl)) (pgs_cons (pg_name (i := 5) sc_leads_to.nd rfl (.inl rfl)) pgs_nil)))) (fun _ _ _ _ _ => pts_one (pt_cmpR (k_eq (K := K) hr.units) (pe_ix (k_ix (K := K)) (pv 5) (pe_op op_subA (pv 1) (pv 2)) (fun _ _ => rfl)) (pe_globS T.BLACK (by rfl)) (nomark _))) (fun _ _ _ _ _ => (pv 3))))))), ?_⟩
      refine q_setD Tr1 (Ex.refl _) (den_len_pic (den_var rfl h1)) fun x H1 e1 hx => ?_
      have g1 := h1.up (hide_up (S := S) e1)
      have g2 := h2.up (hide_up (S := S) e1)
      refine q_whenD (Tr1.up e1) (Ex.refl _) (tst_test (den_op (den_var rfl g2) (den_var rfl hx) rd_lt)) (fun hb H2 e2 => ?_) fun hb H2 e2 => ?_
      · have hlt : l < hh := by
          have := of_decide_eq_true hb
          omega
        have p1 := g1.up (hide_up (S := S) e2)
        have p2 := g2.up (hide_up (S := S) e2)
        have px := hx.up (hide_up (S := S) e2)
        refine s_retD ((Tr1.up e1).up e2) (Ex.refl _) ((den_lc (List.range wd) (fun (j : Nat) => PyData.tuple [.int (j : Int), .str (sgn (c l j))]) _ (fun j => !c l j) (fun (j : Nat) => .int ((hh : Int) + (j : Int))) (it_enum_row (den_row (den_var rfl p1) (den_var rfl p2) hlt)) (by rw [List.length_range]; omega) (fun _ _ => asg_pair) ?_).to ?_) fun y H3 e hy => q y H3 ((e1.trans e2).trans e) hy
        · rintro j hj B1 σ1 eB ⟨y, z, hy, hz, rfl⟩
          exact ⟨rfl, (tst_test (den_op (den_var rfl hz) den_str rd_neS)).to (sgn_b _), fun _ => den_op (den_var rfl (px.up eB)) (den_var rfl hy) rd_addI⟩
        · unfold natL LP.leads
          rw [if_pos hlt, List.map_map]
          rfl
      · have hge : ¬ l < hh := by
          have := of_decide_eq_false hb
          omega
        have p1 := g1.up (hide_up (S := S) e2)
        have p2 := g2.up (hide_up (S := S) e2)
        have px := hx.up (hide_up (S := S) e2)
        have e12 := e1.trans e2
        refine s_retD (Tr1.up e12) (Ex.refl _) ((den_lc (List.range hh) (fun (i : Nat) => PyData.tuple [.int (i : Int), .str (rowS wd (c i))]) _ (fun i => c i (l - hh)) (fun (i : Nat) => .int (i : Int)) (it_enum_pic (den_var rfl p1)) (by rw [List.length_range]; omega) (fun _ _ => asg_pair) ?_).to ?_) fun y H3 e hy => q y H3 (e12.trans e) hy
        · rintro i hi B1 σ1 eB ⟨y, z, hy, hz, rfl⟩
          have el : PyData.int ((l : Int) - (hh : Int)) = .int ((l - hh : Nat) : Int) := by
            congr 1
            omega
          exact ⟨rfl, (tst_test (den_op (den_sign (j := l - hh) (den_var rfl hz) ((den_op (den_var rfl (p2.up eB)) (den_var rfl (px.up eB)) rd_sub).to el) k4 (by omega)) den_str rd_eqS)).to (sgn_b' _), fun _ => den_var rfl hy⟩
        · unfold natL LP.leads
          rw [if_neg hge]
end
end LPW

/-! ## LpW3 -/
/-! layers_of, core_of, is_free_of, meets, trimmed. -/
namespace LPW
open PySem PySem.Spec PyProof.Rows L2 Evl

section
variable {σ : L2.St} {B H : Hp} {S : List Addr} {te : TE} {tz : TS} {D : Ends} {d : PyData}
theorem q_parNew {i j : Nat} (T : Tr S H) (e : Ex B (hide S H)) (h : Den te σ B d) (k : ∀ x L H1, Ex H H1 → Dn (hide S H1) x d → H1 L = none → tz D ((σ.set i (some x)).set j (some (.ref L))) (upd H1 L (.lst []))) :
    tSeq (tPar i j (tCons te (tCons (tLst tNil) tNil))) tz D σ H :=
  h S H T e _ fun v H1 e1 hv => ⟨Nat.zero_le _, fun L hL => ⟨v, .ref L, rfl, k v L H1 e1 hv hL⟩⟩
/-- while True: W by a number that falls -/
theorem s_loopD {tu : TS} (W : Nat → L2.St → Hp → Prop) (m0 : Nat) (h0 : W m0 σ H)
    (hs : ∀ m σ' H', W m σ' H' → tu { D with nx := fun σ2 H2 => ∃ m', m' < m ∧ W m' σ2 H2, ct := fun σ2 H2 => ∃ m', m' < m ∧ W m' σ2 H2, bk := D.nx } σ' H') : tWhile (tB (tC (.bl true))) tu D σ H :=
  ⟨W, ⟨m0, h0⟩, fun m σ' H' hw => ⟨true, rfl, iteT ⟨_, fun _ _ h => h, hs m σ' H' hw⟩⟩⟩
theorem rgV_nat (n : Nat) : rgV 0 (n : Int) = (List.range n).map fun (i : Nat) => V.int (i : Int) := by
  unfold rgV
  rw [Int.sub_zero, Int.toNat_natCast]
  refine List.map_congr_left fun i _ => ?_
  rw [Int.zero_add]
theorem dn_nats {H : Hp} : ∀ ns : List Nat, DnAll H (ns.map fun (i : Nat) => V.int (i : Int)) (natL ns)
  | [] => .nil
  | n :: ns => .cons (.int _) (dn_nats ns)
theorem den_listRg {n : Nat} (h : Den te σ B (.int n)) (hn : n ≤ 100000) : Den (tLstRg (tRg1 te)) σ B (.list (natL (List.range n))) := fun S H1 T e Q q =>
  h S H1 T e _ fun v H2 e2 hv => by
    cases hv
    refine ⟨n, rfl, ⟨by omega, by omega, by omega, by omega, by omega⟩, fun p hp => ?_⟩
    rw [rgV_nat]
    exact q _ _ (e2.trans (Ex.new hp)) (.lst (hide_new (T.up e2) hp) (dn_nats _))
theorem Ok.nats (n : Nat) (ns : List Nat) : ∀ x ∈ natL ns, Ok n x := fun x hx => by
  obtain ⟨i, _, rfl⟩ := List.mem_map.mp hx
  exact .int
theorem cast_mem (o : Nat) (l : List Nat) : decide ((o : Int) ∈ l.map fun (n : Nat) => (n : Int)) = decide (o ∈ l) := by
  rw [Bool.eq_iff_iff, decide_eq_true_iff, decide_eq_true_iff, List.mem_map]
  constructor
  · rintro ⟨m, hm, e⟩
    have : m = o := by omega
    rw [← this]
    exact hm
  · intro h
    exact ⟨o, h, rfl⟩
end

section
variable {P : Program} {w : World} {K : PySem.W.Frag} {mg : Str → Option Value} {base : Heap}
def layD (L : List (List Nat)) : PyData := .list (L.map fun s => .list (natL s))
def RLayers : List PyData → PyData → Prop := fun ds d => ∃ h wd c, PicOk h wd ∧ ds = [picD h wd c] ∧ d = layD (LP.layers h wd c)
theorem ok_layers_of (T : Tx mg) (h : At K mg "layers_of" s_layers_of ["picture"]) (c_lines_of : Prom P w K mg base "lines_of" ["picture"] 1 (SpR RLinesOf)) (c_leads_to : Prom P w K mg base "leads_to" ["picture", "line"] 1 (SpR RLeads)) :
    Prom P w K mg base "layers_of" ["picture"] 2 (SpR RLayers) := by
  refine prom_R h sc_layers_of (fun ds d hR => by obtain ⟨_, _, _, _, rfl, _⟩ := hR; rfl) fun f cdv A outer s H vs Q E S ds d hr Tr1 hv hR q => ?_
  obtain ⟨hh, wd, c, k, rfl, rfl⟩ := hR
  obtain ⟨k1, k2, k3, k4⟩ := id k
  cases hv with
  | @cons vp _ _ _ h1 t =>
    cases t
    refine ⟨_, (pss_cons (ps_par (i := 1) (j := 2) rfl sc_layers_of.nd rfl rfl (by decide) rfl rfl (pa_cons (pe_listRg rfl (by rfl) T.list_ (prg_1 (by rfl) T.range_ (pe_callP c_lines_of (hr.mono (by decide)) (by rfl) (pa_cons (pv 0) pa_nil)))) (pa_cons (pe_lst pa_nil) pa_nil)) (by rfl))
      (pss_cons (ps_set (i := 3) sc_layers_of.nd rfl (.inr rfl) (pe_lc (own := [("line", 7)])  rfl sc_layers_of.nd (pi_seqK (K := K) (pv 1)) (blkOk_by (N := n_layers_of) (sc := defScope s_layers_of) (by decide +kernel)) (fun _ _ _ _ _ => (pg_name (i := 7) sc_layers_of.nd rfl (.inl rfl))) (fun _ _ _ _ _ => pts_nil) (fun _ _ _ _ _ => (pe_callP c_leads_to (hr.mono (by decide)) (by rfl) (pa_cons (pv 0) (pa_cons (pv 7) pa_nil))))))
      (pss_one (ps_while PassesOwn.never (pt_val pe_bl) (pss_cons (ps_set (i := 4) sc_layers_of.nd rfl (.inr rfl) (pe_dc (own := [("line", 7)])  rfl sc_layers_of.nd (pi_seqK (K := K) (pv 1)) (blkOk_by (N := n_layers_of) (sc := defScope s_layers_of) (by decide +kernel)) (fun _ _ _ _ _ => (pg_name (i := 7) sc_layers_of.nd rfl (.inl rfl))) (fun _ _ _ _ _ => pts_nil) (fun _ _ _ _ _ => (pv 7)) (fun _ _ _ _ _ => pe_bl)))
      (pss_cons (ps_setLc (i := 5) (own := [("line", 7)])  rfl sc_layers_of.nd rfl rfl (sw_true rfl rfl rfl (by decide +kernel)) (pi_seqK (K := K) (pv 1)) (blkOk_by (N := n_layers_of) (sc := defScope s_layers_of) (by decide +kernel)) (fun _ _ _ _ _ => (pg_name (i := 7) sc_layers_of.nd rfl (.inl rfl))) (fun _ _ _ _ _ => pts_one (pt_not (pt_val (pe_callB (k_any (K := K) rfl) (by rfl) T.any_ (by decide +kernel) (pa_cons (pe_lc (own := [("other", 8)])  rfl sc_layers_of.nd (pi_seqK (K := K) (pe_ix (k_ix (K := K)) (pv 3) (pv 7) (fun _ _ => rfl))) (blkOk_nest (N := n_layers_of) (sc := defScope s_layers_of) rfl (by decide +kernel)) (fun _ _ _ _ _ => (pg_name (i := 8) sc_layers_of.nd rfl (.inl rfl))) (fun _ _ _ _ _ => pts_nil) (fun _ _ _ _ _ => (pe_cmp (pc_din (hu_of hr) (pv 8) (pv 4))))) pa_nil))))) (fun _ _ _ _ _ => (pv 7)))
      (pss_cons (ps_if (pt_cmpR (k_eq (K := K) hr.units) (pv 5) (pe_lst pa_nil) (nomark _)) (pss_one (ps_ret (pv 2))) pss_nil)
      (pss_cons (ps_expr (pe_bm PySem.F.plainAttrs_list PySem.F.slot_list_append PySem.F.type_list_append mt_append (pv 2) (pa_cons (pv 5) pa_nil)))
      (pss_cons (ps_set (i := 6) sc_layers_of.nd rfl (.inr rfl) (pe_dc (own := [("line", 7)])  rfl sc_layers_of.nd (pi_seqK (K := K) (pv 5)) (blkOk_by (N := n_layers_of) (sc := defScope s_layers_of) (by decide +kernel)) (fun _ _ _ _ _ => (pg_name (i := 7) sc_layers_of.nd rfl (.inl rfl))) (fun _ _ _ _ _ => pts_nil) (fun _ _ _ _ _ => (pv 7)) (fun _ _ _ _ _ => pe_bl)))
      (pss_one (ps_setLc (i := 1) (own := [("line", 7)])  rfl sc_layers_of.nd rfl rfl (sw_true rfl rfl rfl (by decide +kernel)) (pi_seqK (K := K) (pv 1)) (blkOk_by (N := n_layers_of) (sc := defScope s_layers_of) (by decide +kernel)) (fun _ _ _ _ _ => (pg_name (i := 7) sc_layers_of.nd rfl (.inl rfl))) (fun _ _ _ _ _ => pts_one (pt_cmp (pc_dnotin (hu_of hr) (pv 7) (pv 6)))) (fun _ _ _ _ _ => (pv 7))))))))))))), ?_⟩
    refine q_parNew Tr1 (Ex.refl _) (den_listRg (den_call (dena_cons (den_var rfl h1) dena_nil) ⟨hh, wd, c, k, rfl, rfl⟩) (by omega)) fun vl L H1 e1 hl hL => ?_
    have HL : H L = none := fresh_back e1 hL
    have T1 : Tr (L :: S) (upd H1 L (.lst [])) := ((Tr1.up e1).up (Ex.new hL)).cons upd_same
    have o1 : Ex (hide S H1) (hide (L :: S) (upd H1 L (.lst []))) := hide_open hL (Ex.new hL)
    have g1 := (h1.up (hide_up (S := S) e1)).up o1
    have gl := hl.up o1
    refine q_setD T1 (Ex.refl _) (den_lcM (List.range (hh + wd)) (fun (l : Nat) => PyData.int (l : Int)) _ (fun l => .list (natL (LP.leads hh wd c l))) (it_list (den_var rfl gl)) (by rw [List.length_range]; omega) (fun _ _ => asg_name) fun l hlm B1 σ1 eB ⟨x, hx, ex⟩ => by
      subst ex
      exact ⟨rfl, den_call (dena_cons (den_var rfl (g1.up eB)) (dena_cons (den_var rfl hx) dena_nil)) ⟨hh, wd, c, l, k, List.mem_range.mp hlm, rfl, rfl⟩⟩) fun vw H2 e2 hw => ?_
    have eH2 : Ex H H2 := (Ex.mut e1 HL).trans e2
    let B := hide (L :: S) H2
    have p1 : Dn B vp (picD hh wd c) := g1.up (hide_up e2)
    refine s_loopD (fun n σ' H' => ∃ (vl : V) (acc : List V) (left : List Nat) (fnd : List (List Nat)) (y4 y5 y6 y7 y8 : Option V), σ' = [some vp, some vl, some (.ref L), some vw, y4, y5, y6, y7, y8] ∧ Ex H H' ∧ Ex B (hide (L :: S) H') ∧ H' L = some (.lst acc) ∧ acc.length + n = hh + wd ∧
      Dn (hide (L :: S) H') vl (.list (natL left)) ∧ DnAll (hide (L :: S) H') acc (fnd.map fun s => .list (natL s)) ∧ left.length ≤ n ∧ (∀ l ∈ left, l < hh + wd) ∧ LP.layers hh wd c = fnd ++ LP.layersGo (LP.leads hh wd c) n left) (hh + wd)
      ⟨vl, [], List.range (hh + wd), [], none, none, none, none, none, rfl, eH2, Ex.refl _, e2 L _ upd_same, by simp, gl.up (hide_up e2), .nil, by rw [List.length_range]; exact Nat.le_refl _, fun l hl => List.mem_range.mp hl, rfl⟩ ?_
    rintro n σ' H' ⟨vl, acc, left, fnd, y4, y5, y6, y7, y8, rfl, eH, eB, hacc, hlen, hleft, hfnd, hle, hlt, hlay⟩
    have TL : Tr (L :: S) H' := (Tr1.up eH).cons hacc
    -- told
    refine q_setM TL (Ex.refl _) (den_dc left (fun (l : Nat) => PyData.int (l : Int)) _ (fun (l : Nat) => (l : Int)) (.bool true) (it_list (den_var rfl hleft)) (by omega) (fun _ _ => asg_name) fun l hlm B1 σ1 eB1 ⟨x, hx, ex⟩ => by
      subst ex
      exact ⟨rfl, den_var rfl hx, den_bl⟩) fun ta H4 e4 hta => ?_
    -- some
    have l4 := hleft.up (hide_up (S := L :: S) e4)
    have eB4 := eB.trans (hide_up (S := L :: S) e4)
    refine q_setD (TL.up e4) (Ex.refl _) ((den_lc left (fun (l : Nat) => PyData.int (l : Int)) _ (fun l => !((LP.leads hh wd c l).any fun o => decide (o ∈ left))) (fun (l : Nat) => .int (l : Int)) (it_list (den_var rfl l4)) (by omega) (fun _ _ => asg_name) fun l hlm B1 σ1 eB1 ⟨x, hx, ex⟩ => by
      subst ex
      refine ⟨rfl, tst_not (tst_B (den_any (xs := LP.leads hh wd c l) (b := fun o => decide (o ∈ left)) (den_lcM (LP.leads hh wd c l) (fun (o : Nat) => PyData.int (o : Int)) _ _ (it_list (den_op (den_var rfl ((hw.up eB4).up eB1)) (den_var rfl hx) (rd_ixL (d := .list (natL (LP.leads hh wd c l))) ?_))) ?_ (fun _ _ => asg_name) fun o ho B2 σ2 eB2 ⟨y, hy, ey⟩ => by
        subst ey
        exact ⟨rfl, (den_din (den_var rfl hy) rfl ((hta.up eB1).up eB2)).to (congrArg PyData.bool (cast_mem o left))⟩))), fun _ => den_var rfl hx⟩
      · rw [List.getElem?_map, List.getElem?_range (hlt l hlm)]
        rfl
      · unfold LP.leads
        split
        · rw [List.length_map]
          exact Nat.le_trans (List.length_filter_le _ _) (by rw [List.length_range]; omega)
        · exact Nat.le_trans (List.length_filter_le _ _) (by rw [List.length_range]; omega)).to (show _ = PyData.list (natL (LP.layer (LP.leads hh wd c) left)) from rfl)) fun vs H5 e5 hs => ?_
    have e35 := e4.trans e5
    have TL5 := (TL.up e4).up e5
    refine q_whenD TL5 (Ex.refl _) (tst_test (den_op (den_var rfl hs) (den_lst dena_nil (by show 0 ≤ 100000; decide)) (rd_eqL (Ok.list (Ok.nats 0 _)) (by decide)))) (fun hb H6 e6 => ?_) fun hb H6 e6 => ?_
    · -- return found
      have hnil : LP.layer (LP.leads hh wd c) left = [] := by
        have := List.isEmpty_iff.mp hb
        exact List.map_eq_nil_iff.mp this
      have e36 := e35.trans e6
      refine ⟨.ref L, rfl, q _ H6 (eH.trans e36) ?_⟩
      rw [hlay, LP.layersGo_nil hnil, List.append_nil]
      refine .lst ?_ ((hfnd.up (hide_up e36)).up hide_less)
      rw [hide_at (Tr1.not HL)]
      exact e36 L _ hacc
    · have hne : LP.layer (LP.leads hh wd c) left ≠ [] := fun z => by
        rw [z] at hb
        cases hb
      have hless := LP.left_less hne
      have e36 := e35.trans e6
      have TL6 := TL5.up e6
      have hs6 := hs.up (hide_up (S := L :: S) e6)
      refine q_appD TL6 (Ex.refl _) rfl (e36 L _ hacc) (by omega) (den_var rfl hs6) fun x H7 e7 hx => ?_
      have eH7 := (eH.trans e36).trans e7
      have T8 : Tr (L :: S) (upd H7 L (.lst (acc ++ [x]))) := (Tr1.up (Ex.mut eH7 HL)).cons upd_same
      -- gone
      have hs8 : Dn (hide (L :: S) (upd H7 L (.lst (acc ++ [x])))) vs (.list (natL (LP.layer (LP.leads hh wd c) left))) := by
        rw [hide_upd]
        exact hs6.up (hide_up e7)
      refine q_setM T8 (Ex.refl _) (den_dc (LP.layer (LP.leads hh wd c) left) (fun (l : Nat) => PyData.int (l : Int)) _ (fun (l : Nat) => (l : Int)) (.bool true) (it_list (den_var rfl hs8)) (Nat.le_trans (List.length_filter_le _ _) (by omega)) (fun _ _ => asg_name) fun l hlm B1 σ1 eB1 ⟨x, hx, ex⟩ => by
        subst ex
        exact ⟨rfl, den_var rfl hx, den_bl⟩) fun ga H9 e9 hga => ?_
      have l9 : Dn (hide (L :: S) H9) vl (.list (natL left)) := by
        have l7 : Dn (hide (L :: S) (upd H7 L (.lst (acc ++ [x])))) vl (.list (natL left)) := by
          rw [hide_upd]
          exact hleft.up (hide_up (e36.trans e7))
        exact l7.up (hide_up e9)
      refine s_setD (T8.up e9) (Ex.refl _) ((den_lc left (fun (l : Nat) => PyData.int (l : Int)) _ (fun l => !decide (l ∈ LP.layer (LP.leads hh wd c) left)) (fun (l : Nat) => .int (l : Int)) (it_list (den_var rfl l9)) (by omega) (fun _ _ => asg_name) fun l hlm B1 σ1 eB1 ⟨x, hx, ex⟩ => by
        subst ex
        exact ⟨rfl, (tst_B (den_dnin (den_var rfl hx) rfl (hga.up eB1))).to (by rw [cast_mem]), fun _ => den_var rfl hx⟩).to (show _ = PyData.list (natL (left.filter fun l => !decide (l ∈ LP.layer (LP.leads hh wd c) left))) from rfl)) fun y H10 e10 hy => ?_
      obtain ⟨n', rfl⟩ : ∃ n', n = n' + 1 := ⟨n - 1, by omega⟩
      have eA : Ex (hide (L :: S) H') (hide (L :: S) H10) := by
        have e78 : Ex (hide (L :: S) H7) (hide (L :: S) H10) := by
          rw [← hide_upd (S := S) (H := H7) (D := L) (o := .lst (acc ++ [x]))]
          exact hide_up (e9.trans e10)
        exact (hide_up (e36.trans e7)).trans e78
      refine ⟨n', Nat.lt_succ_self _, y, acc ++ [x], left.filter fun l => !decide (l ∈ LP.layer (LP.leads hh wd c) left), fnd ++ [LP.layer (LP.leads hh wd c) left], _, _, _, _, _, rfl, (Ex.mut eH7 HL).trans (e9.trans e10), eB.trans eA, (e9.trans e10) L _ upd_same, ?_, hy, ?_, by omega, ?_, ?_⟩
      · rw [List.length_append, List.length_singleton]
        omega
      · rw [List.map_append]
        refine DnAll.snoc (hfnd.up eA) ?_
        have : Dn (hide (L :: S) (upd H7 L (.lst (acc ++ [x])))) x (.list (natL (LP.layer (LP.leads hh wd c) left))) := by
          rw [hide_upd]
          exact hx
        exact this.up (hide_up (e9.trans e10))
      · intro l hl
        exact hlt l (List.mem_filter.mp hl).1
      · rw [hlay, LP.layersGo_cons hne, List.append_assoc]
        rfl
end
end LPW

/-! ## LpW4 -/
/-! core_of, is_free_of, meets, trimmed. -/
namespace LPW
open PySem PySem.Spec PyProof.Rows L2 Evl

section
variable {P : Program} {w : World} {K : PySem.W.Frag} {mg : Str → Option Value} {base : Heap}
def RCore : List PyData → PyData → Prop := fun ds d => ∃ h wd c, PicOk h wd ∧ ds = [picD h wd c] ∧ d = .list (natL (LP.core h wd c))
theorem layers_sum {h wd : Nat} {c : LP.Pic} (k : PicOk h wd) : (LP.layers h wd c).length * (h + wd) ≤ 3600 := by
  obtain ⟨k1, k2, k3, k4⟩ := k
  have h1 := LP.layers_len h wd c
  exact Nat.le_trans (Nat.mul_le_mul (Nat.le_trans h1 (show h + wd ≤ 60 by omega)) (show h + wd ≤ 60 by omega)) (by decide)
theorem ok_core_of (T : Tx mg) (h : At K mg "core_of" s_core_of ["picture"]) (c_lines_of : Prom P w K mg base "lines_of" ["picture"] 1 (SpR RLinesOf)) (c_layers_of : Prom P w K mg base "layers_of" ["picture"] 2 (SpR RLayers)) :
    Prom P w K mg base "core_of" ["picture"] 3 (SpR RCore) := by
  refine prom_R h sc_core_of (fun ds d hR => by obtain ⟨_, _, _, _, rfl, _⟩ := hR; rfl) fun f cdv A outer s H vs Q E S ds d hr Tr1 hv hR q => ?_
  obtain ⟨hh, wd, c, k, rfl, rfl⟩ := hR
  obtain ⟨k1, k2, k3, k4⟩ := id k
  cases hv with
  | @cons vp _ _ _ h1 t =>
    cases t
    refine ⟨_, (pss_cons (ps_set (i := 1) sc_core_of.nd rfl (.inr rfl) (pe_dc2 (own := [("some", 2), ("line", 3)]) (vs1 := [3]) rfl sc_core_of.nd (pi_seqK (K := K) (pe_callP c_layers_of (hr.mono (by decide)) (by rfl) (pa_cons (pv 0) pa_nil))) (blkOk_by (N := n_core_of) (sc := defScope s_core_of) (by decide +kernel)) (by decide) (fun _ _ _ _ _ => (pg_name (i := 2) sc_core_of.nd rfl (.inl rfl))) (fun _ _ _ _ _ => pts_nil) (fun _ _ _ _ _ => (pi_seqK (K := K) (pv 2))) (fun _ _ _ _ _ => (pg_name (i := 3) sc_core_of.nd rfl (.inl rfl))) (fun _ _ _ _ _ => pts_nil) (fun _ _ _ _ _ => (pv 3)) (fun _ _ _ _ _ => pe_bl)))
      (pss_one (ps_ret (pe_lc (own := [("line", 3)])  rfl sc_core_of.nd (pi_range1 (by rfl) T.range_ (pa_cons (pe_callP c_lines_of (hr.mono (by decide)) (by rfl) (pa_cons (pv 0) pa_nil)) pa_nil)) (blkOk_by (N := n_core_of) (sc := defScope s_core_of) (by decide +kernel)) (fun _ _ _ _ _ => (pg_name (i := 3) sc_core_of.nd rfl (.inl rfl))) (fun _ _ _ _ _ => pts_one (pt_cmp (pc_dnotin (hu_of hr) (pv 3) (pv 1)))) (fun _ _ _ _ _ => (pv 3)))))), ?_⟩
    refine q_setM Tr1 (Ex.refl _) (den_dc2 (LP.layers hh wd c) (fun s => .list (natL s)) (fun s => s) (fun (l : Nat) => PyData.int (l : Int)) _ (fun (l : Nat) => (l : Int)) (.bool true) 3600
      (it_list (den_call (dena_cons (den_var rfl h1) dena_nil) ⟨hh, wd, c, k, rfl, rfl⟩)) (fun i _ => Nat.le_trans (sum_take_le fun s hs => LP.layers_size hs) (layers_sum k)) (by decide) (fun _ _ => asg_name)
      fun s hs B1 σ1 eB ⟨x, hx, ex⟩ => by
        subst ex
        exact ⟨rfl, it_list (den_var rfl hx), _, fun _ _ => asg_name, fun l hl B2 σ2 eB2 ⟨y, hy, ey⟩ => by
          subst ey
          exact ⟨rfl, den_var rfl hy, den_bl⟩⟩) fun ta H4 e4 hta => ?_
    have g1 := h1.up (hide_up (S := S) e4)
    refine s_retD (Tr1.up e4) (Ex.refl _) ((den_lc (List.range (hh + wd)) (fun (l : Nat) => PyData.int (l : Int)) _ (fun l => !decide (l ∈ (LP.layers hh wd c).flatten)) (fun (l : Nat) => .int (l : Int))
      (it_range (dena_cons (den_call (dena_cons (den_var rfl g1) dena_nil) ⟨hh, wd, c, k, rfl, rfl⟩) dena_nil) (by omega)) (by rw [List.length_range]; omega) (fun _ _ => asg_name) fun l hl B1 σ1 eB ⟨x, hx, ex⟩ => by
        subst ex
        exact ⟨rfl, (tst_B (den_dnin (den_var rfl hx) rfl (hta.up eB))).to (by rw [show (fun a : List Nat => a.map fun (l : Nat) => (l : Int)) = List.map (fun (l : Nat) => (l : Int)) from rfl, ← List.map_flatten, cast_mem]), fun _ => den_var rfl hx⟩).to
      (show _ = PyData.list (natL (LP.core hh wd c)) from rfl)) fun x H5 e5 hx => q x H5 (e4.trans e5) hx

def RFree : List PyData → PyData → Prop := fun ds d => ∃ h wd c, PicOk h wd ∧ ds = [picD h wd c] ∧ d = .bool (LP.core h wd c).isEmpty
theorem ok_is_free_of (T : Tx mg) (h : At K mg "is_free_of" s_is_free_of ["picture"]) (c_core_of : Prom P w K mg base "core_of" ["picture"] 3 (SpR RCore)) :
    Prom P w K mg base "is_free_of" ["picture"] 4 (SpR RFree) := by
  refine prom_R h sc_is_free_of (fun ds d hR => by obtain ⟨_, _, _, _, rfl, _⟩ := hR; rfl) fun f cdv A outer s H vs Q E S ds d hr Tr1 hv hR q => ?_
  obtain ⟨hh, wd, c, k, rfl, rfl⟩ := hR
  cases hv with
  | @cons vp _ _ _ h1 t =>
    cases t
    refine ⟨_, (pss_one (ps_ret (pe_cmpR (k_eq (K := K) hr.units) (pe_callP c_core_of (hr.mono (by decide)) (by rfl) (pa_cons (pv 0) pa_nil)) (pe_lst pa_nil) (nomark _)))), ?_⟩
    exact s_retD Tr1 (Ex.refl _) ((den_op (den_call (dena_cons (den_var rfl h1) dena_nil) ⟨hh, wd, c, k, rfl, rfl⟩) (den_lst dena_nil (by show 0 ≤ 100000; decide)) (rd_eqL (Ok.list (Ok.nats 0 _)) (by decide))).to (by
      unfold natL
      rw [List.isEmpty_map])) q

/-! ### meets: the lines are a dict -/
def spMeets : Sp := fun vs H Q _ => ∃ S h wd c cell vp vc a p, Tr S H ∧ PicOk h wd ∧ vs = [vp, vc, .ref a] ∧ Dn (hide S H) vp (picD h wd c) ∧ Dn (hide S H) vc (cellD cell) ∧ DM (hide S H) a p ∧
  ∀ v H', Ex H H' → Dn (hide S H') v (.bool (p (cell.1 : Int) || p ((h + cell.2 : Nat) : Int))) → Q v H'
theorem ok_meets (T : Tx mg) (h : At K mg "meets" s_meets ["picture", "cell", "lines"]) : Prom P w K mg base "meets" ["picture", "cell", "lines"] 1 spMeets := by
  refine prom_of h sc_meets (fun vs H Q E hq => by
    obtain ⟨_, _, _, _, _, _, _, _, _, _, _, rfl, _⟩ := hq
    rfl) fun f cdv A outer s H vs Q E hr hq => ?_
  obtain ⟨S, hh, wd, c, cell, vp, vc, a, p, Tr1, k, rfl, h1, h2, hd, q⟩ := hq
  refine ⟨_, (pss_one (ps_ret (pe_or (pe_cmp (pc_din (hu_of hr) (pe_ix (k_ix (K := K)) (pv 1) pe_int (fun _ _ => rfl)) (pv 2))) (pe_one (pe_cmp (pc_din (hu_of hr) (pe_op op_addA (pe_callB (k_len (K := K)) (by rfl) T.len_ (by decide +kernel) (pa_cons (pv 0) pa_nil)) (pe_ix (k_ix (K := K)) (pv 1) pe_int (fun _ _ => rfl))) (pv 2))))))), ?_⟩
  refine s_retD Tr1 (Ex.refl _) (den_orV (den_din (den_op (den_var rfl h2) den_int (rd_ixT (d := .int (cell.1 : Int)) (j := 0) rfl)) rfl hd) fun _ =>
    den_din ((den_op (den_len_pic (den_var rfl h1)) (den_op (den_var rfl h2) den_int (rd_ixT (d := .int (cell.2 : Int)) (j := 1) rfl)) rd_addI).to (by rw [Int.natCast_add])) rfl hd) q
theorem den_meets {tp tc : TE} {σ : L2.St} {B : Hp} {h wd : Nat} {c : LP.Pic} {cell : Nat × Nat} {i : Nat} {a : Addr} {p : Int → Bool} {E : XK} (k : PicOk h wd) (hp : Den tp σ B (picD h wd c)) (hc : Den tc σ B (cellD cell)) (hi : σ[i]? = some (some (.ref a))) (hd : DM B a p) :
    Den (tCall spMeets [] E (tCons tp (tCons tc (tCons (tVar i) tNil)))) σ B (.bool (p (cell.1 : Int) || p ((h + cell.2 : Nat) : Int))) := fun S H1 T e Q q =>
  hp S H1 T e _ fun vp H2 e2 h2 => hc S H2 (T.up e2) (e.trans (hide_up e2)) _ fun vc H3 e3 h3 =>
    ⟨.ref a, hi, S, h, wd, c, cell, vp, vc, a, p, (T.up e2).up e3, k, rfl, h2.up (hide_up e3), h3, (hd.up e).up (hide_up (e2.trans e3)), fun v H' e4 hv => q v H' ((e2.trans e3).trans e4) hv⟩

/-! ### trimmed -/
theorem den_neg1 {σ : L2.St} {B : Hp} : Den (tUn (rU fun i => .int (-i)) (tC (.int 1))) σ B (.int (-1)) := fun S H1 T e Q q => ⟨1, rfl, q _ H1 (Ex.refl H1) (.int (-1))⟩
def fndD (F : List (List Nat × List Nat)) : List PyData := F.map fun p => .tuple [.list (natL p.1), .list (natL p.2)]
def RTrimmed : List PyData → PyData → Prop := fun ds d => ∃ F, F.length ≤ 1000 ∧ ds = [.list (fndD F)] ∧ d = layD (LP.trimmed F)
theorem Ok.fnd (F : List (List Nat × List Nat)) : ∀ x ∈ fndD F, Ok 2 x := fun x hx => by
  obtain ⟨p, _, rfl⟩ := List.mem_map.mp hx
  refine .tuple fun y hy => ?_
  rcases List.mem_cons.mp hy with rfl | hy
  · exact .list (Ok.nats 0 _)
  · rcases List.mem_cons.mp hy with rfl | hy
    · exact .list (Ok.nats 0 _)
    · cases hy
theorem ok_trimmed (T : Tx mg) (h : At K mg "trimmed" s_trimmed ["found"]) : Prom P w K mg base "trimmed" ["found"] 1 (SpR RTrimmed) := by
  refine prom_R h sc_trimmed (fun ds d hR => by obtain ⟨_, _, rfl, _⟩ := hR; rfl) fun f cdv A outer s H vs Q E S ds d hr Tr1 hv hR q => ?_
  obtain ⟨F, hF, rfl, rfl⟩ := hR
  cases hv with
  | @cons vp _ _ _ h1 t =>
    cases t
    refine ⟨_, (pss_cons (ps_if (pt_cmpR (k_eq (K := K) hr.units) (pv 0) (pe_lst pa_nil) (nomark _)) (pss_one (ps_ret (pe_lst pa_nil))) pss_nil)
      (pss_one (ps_ret (pe_op op_addA (pe_lc (own := [("some", 1), ("needed", 2)])  rfl sc_trimmed.nd (pi_seqK (K := K) (pe_slice (k_slL (K := K)) (pv 0) po_none (po_some (pe_un un_neg pe_int)))) (blkOk_by (N := n_trimmed) (sc := defScope s_trimmed) (by decide +kernel)) (fun _ _ _ _ _ => (pg_tupK (K := K) (n := 2) (by rfl) (pgs_cons (pg_name (i := 1) sc_trimmed.nd rfl (.inl rfl)) (pgs_cons (pg_name (i := 2) sc_trimmed.nd rfl (.inl rfl)) pgs_nil)))) (fun _ _ _ _ _ => pts_nil) (fun _ _ _ _ _ => (pe_callTy (k_list (K := K)) (by rfl) T.list_ (by decide +kernel) (pa_cons (pv 1) pa_nil)))) (pe_lst (pa_cons (pe_ix (k_ix (K := K)) (pe_ix (k_ix (K := K)) (pv 0) (pe_un un_neg pe_int) (fun _ _ => rfl)) pe_int (fun _ _ => rfl)) pa_nil)))))), ?_⟩
    refine q_whenD Tr1 (Ex.refl _) (tst_test (den_op (den_var rfl h1) (den_lst dena_nil (by show 0 ≤ 100000; decide)) (rd_eqL (Ok.list (Ok.fnd F)) (by decide)))) (fun hb H6 e6 => ?_) fun hb H6 e6 => ?_
    · have hn : F = [] := List.map_eq_nil_iff.mp (List.isEmpty_iff.mp hb)
      subst hn
      exact s_retD (Tr1.up e6) (Ex.refl _) (den_lst dena_nil (by show 0 ≤ 100000; decide)) fun v H' e hv => q v H' (e6.trans e) hv
    · have hne : F ≠ [] := fun z => by
        subst z
        cases hb
      obtain ⟨G, x, rfl⟩ : ∃ G x, F = G ++ [x] := ⟨F.dropLast, F.getLast hne, (List.dropLast_concat_getLast hne).symm⟩
      have g1 : Dn (hide S H6) vp (.list (fndD G ++ [.tuple [.list (natL x.1), .list (natL x.2)]])) := by
        have := h1.up (hide_up (S := S) e6)
        unfold fndD at this
        rwa [List.map_append] at this
      rw [List.length_append] at hF
      refine s_retD (Tr1.up e6) (Ex.refl _) (Den.to (den_op (den_lcM G (fun p => PyData.tuple [.list (natL p.1), .list (natL p.2)]) _ (fun p => .list (natL p.1)) (it_list ((den_init (den_var rfl g1)).to (by rw [List.dropLast_concat]; rfl))) (by omega) (fun _ _ => asg_pair) fun p hp B1 σ1 eB ⟨x1, x2, hx1, hx2, ex⟩ => by
        subst ex
        exact ⟨rfl, den_cb (dena_cons (den_var rfl hx1) dena_nil) rc_listL⟩) (den_lst (dena_cons (den_op (den_op (den_var rfl g1) den_neg1 rd_ixLast) den_int (rd_ixT (j := 1) rfl)) dena_nil) (by show 1 ≤ 100000; decide)) (rd_addL (by rw [List.length_map]; show G.length + 1 ≤ _; omega))) ?_) fun v H' e hv => q v H' (e6.trans e) hv
      unfold layD
      rw [LP.trimmed_snoc, List.map_append, List.map_map]
      rfl
end
end LPW

/-! ## LpW5 -/
/-! least_of, few. -/
namespace LPW
open PySem PySem.Spec PyProof.Rows L2 Evl

/-! ### a dict of lines under construction -/
theorem nodup_short : ∀ {n : Nat} {ks : List Nat}, ks.Nodup → (∀ l ∈ ks, l < n) → ks.length ≤ n
  | 0, [], _, _ => Nat.le_refl _
  | 0, k :: _, _, h => absurd (h k List.mem_cons_self) (Nat.not_lt_zero _)
  | n + 1, ks, hn, h => by
    have h1 := nodup_short (n := n) (hn.erase n) fun l hl => by
      have h2 := (hn.mem_erase_iff).mp hl
      have h3 := h l h2.2
      have h4 := h2.1
      omega
    rw [List.length_erase] at h1
    split at h1 <;> omega
theorem keys_put1 {kvs : List (Key × V)} {k : Key} (y : V) (h : k ∈ kvs.map (·.1)) : (putK kvs k y).map (·.1) = kvs.map (·.1) := by
  obtain ⟨kv, h1, h2⟩ := List.mem_map.mp h
  unfold putK
  rw [if_pos (List.any_eq_true.mpr ⟨kv, h1, decide_eq_true h2⟩), List.map_map]
  refine List.map_congr_left fun kv _ => ?_
  show (if kv.1 = k then (kv.1, y) else kv).1 = kv.1
  split <;> rfl
theorem keys_put2 {kvs : List (Key × V)} {k : Key} (y : V) (h : k ∉ kvs.map (·.1)) : (putK kvs k y).map (·.1) = kvs.map (·.1) ++ [k] := by
  unfold putK
  rw [if_neg fun e => by
    obtain ⟨kv, h1, h2⟩ := List.any_eq_true.mp e
    exact h (List.mem_map.mpr ⟨kv, h1, of_decide_eq_true h2⟩), List.map_append]
  rfl
def NK (H : Hp) (M : Addr) (p : Nat → Prop) : Prop := ∃ (kvs : List (Key × V)) (ks : List Nat), H M = some (.dK kvs) ∧ kvs.map (·.1) = ks.map (fun (n : Nat) => Sum.inl (n : Int)) ∧ ks.Nodup ∧ (∀ l, l ∈ ks ↔ p l) ∧ ∀ l ∈ ks, l < 60
theorem NK.up {H H' : Hp} {M : Addr} {p : Nat → Prop} (h : NK H M p) (e : Ex H H') : NK H' M p := by
  obtain ⟨kvs, ks, h1, h2⟩ := h
  exact ⟨kvs, ks, e M _ h1, h2⟩
theorem NK.to {H : Hp} {M : Addr} {p p' : Nat → Prop} (h : NK H M p) (e : ∀ l, p l ↔ p' l) : NK H M p' := by
  obtain ⟨kvs, ks, h1, h2, h3, h4, h5⟩ := h
  exact ⟨kvs, ks, h1, h2, h3, fun l => (h4 l).trans (e l), h5⟩
theorem NK.put {H : Hp} {M : Addr} {p : Nat → Prop} (h : NK H M p) {n : Nat} (hn : n < 60) : ∃ kvs : List (Key × V), H M = some (.dK kvs) ∧ kvs.length < sizeLine ∧ ∀ y, NK (upd H M (.dK (putK kvs (.inl (n : Int)) y))) M fun l => p l ∨ l = n := by
  obtain ⟨kvs, ks, h1, h2, h3, h4, h5⟩ := h
  have hlen : kvs.length = ks.length := by
    have := congrArg List.length h2
    rwa [List.length_map, List.length_map] at this
  have hle := nodup_short h3 h5
  have hmem : (Sum.inl (n : Int) : Key) ∈ ks.map (fun (n : Nat) => (Sum.inl (n : Int) : Key)) ↔ n ∈ ks := by
    rw [List.mem_map]
    constructor
    · rintro ⟨m, hm, e⟩
      have : m = n := by have := Sum.inl.inj e; omega
      rwa [← this]
    · intro hm
      exact ⟨n, hm, rfl⟩
  refine ⟨kvs, h1, sz_lt (by omega), fun y => ?_⟩
  by_cases e : n ∈ ks
  · refine ⟨_, ks, upd_same, ?_, h3, fun l => ?_, h5⟩
    · rw [keys_put1 _ (by rw [h2]; exact hmem.mpr e), h2]
    · rw [h4 l]
      constructor
      · exact .inl
      · rintro (a | rfl)
        · exact a
        · exact (h4 _).mp e
  · refine ⟨_, ks ++ [n], upd_same, ?_, ?_, fun l => ?_, fun l hl => ?_⟩
    · rw [keys_put2 _ (by rw [h2]; exact fun z => e (hmem.mp z)), h2, List.map_append]
      rfl
    · rw [List.nodup_append]
      refine ⟨h3, by simp, fun a ha b hb => ?_⟩
      rw [List.mem_singleton.mp hb]
      intro z
      rw [z] at ha
      exact e ha
    · rw [List.mem_append, h4 l, List.mem_singleton]
    · rcases List.mem_append.mp hl with a | a
      · exact h5 l a
      · rw [List.mem_singleton.mp a]
        exact hn
def rSortedDI : List V → Hp → VK → Prop := fun xs H Q => ∃ (a : Addr) (kvs : List (Key × V)) (ks : List Int), xs = [.ref a] ∧ Rd H a (.dK kvs) ∧ kvs.map (·.1) = ks.map Sum.inl ∧ ks.length < 64 ∧
    ∀ (ys : List Int) (p : Addr), ys.Perm ks → ys.Pairwise (· ≤ ·) → H p = none → Q (.ref p) (upd H p (.lst (ys.map V.int)))
theorem dn_intL {H : Hp} : ∀ ns : List Int, DnAll H (ns.map V.int) (ns.map PyData.int)
  | [] => .nil
  | n :: ns => .cons (.int _) (dn_intL ns)
theorem sorted_nat {ys : List Int} {N : List Nat} (h1 : ys.Pairwise (· ≤ ·)) (h2 : ys.Nodup) (h3 : ∀ y ∈ ys, 0 ≤ y) (h4 : N.Pairwise (· < ·)) (h5 : ∀ n : Nat, (n : Int) ∈ ys ↔ n ∈ N) : ys = N.map fun (n : Nat) => (n : Int) := by
  have hz : ys.map Int.toNat = N := by
    refine LP.sorted_one ?_ h4 fun x => ?_
    · rw [List.pairwise_map]
      have h6 := List.pairwise_and_iff.mpr ⟨h1, h2⟩
      refine List.Pairwise.imp_of_mem (fun {a b} ha hb hab => ?_) h6
      have := h3 a ha
      have := h3 b hb
      have := hab.1
      have := hab.2
      omega
    · rw [← h5 x, List.mem_map]
      constructor
      · rintro ⟨y, hy, rfl⟩
        rw [Int.toNat_of_nonneg (h3 y hy)]
        exact hy
      · intro hx
        exact ⟨x, hx, Int.toNat_natCast x⟩
  rw [← hz, List.map_map]
  conv => lhs; rw [← List.map_id ys]
  refine List.map_congr_left fun y hy => ?_
  exact (Int.toNat_of_nonneg (h3 y hy)).symm
theorem den_sortedD {σ : L2.St} {B : Hp} {i : Nat} {M : Addr} {p : Nat → Prop} {N : List Nat} (hi : σ[i]? = some (some (.ref M))) (h : NK B M p) (hN : N.Pairwise (· < ·)) (e : ∀ l, p l ↔ l ∈ N) :
    Den (tCB rSortedDI (tCons (tVar i) tNil)) σ B (.list (natL N)) := fun S H1 T e1 Q q => by
  obtain ⟨kvs, ks, h1, h2, h3, h4, h5⟩ := h.up e1
  have hle := nodup_short h3 h5
  refine ⟨.ref M, hi, M, kvs, ks.map fun (n : Nat) => (n : Int), rfl, .inl (hide_le M _ h1), by rw [h2, List.map_map]; rfl, by rw [List.length_map]; omega, fun ys pp perm pw hp => ?_⟩
  have key : ys = N.map fun (n : Nat) => (n : Int) := by
    refine sorted_nat pw ?_ (fun y hy => ?_) hN fun n => ?_
    · refine perm.nodup_iff.mpr ?_
      unfold List.Nodup
      rw [List.pairwise_map]
      exact h3.imp fun h z => h (by omega)
    · obtain ⟨m, _, rfl⟩ := List.mem_map.mp (perm.mem_iff.mp hy)
      omega
    · rw [perm.mem_iff, List.mem_map, ← e n, ← h4 n]
      constructor
      · rintro ⟨m, hm, z⟩
        have : m = n := by omega
        rwa [← this]
      · intro hm
        exact ⟨n, hm, rfl⟩
  refine q _ _ (Ex.new hp) (.lst (hide_new T hp) ?_)
  rw [key, List.map_map]
  exact dn_nats N
section
variable {σ : L2.St} {B H : Hp} {S : List Addr} {te tk : TE} {tz : TS} {D : Ends} {d : PyData}
theorem q_newK {i : Nat} (k : ∀ L, H L = none → tz D (σ.set i (some (.ref L))) (upd H L (.dK []))) : tSeq (tAsg tDNewK (gName i)) tz D σ H := fun p hp => k p hp
theorem s_putK {i : Nat} {M : Addr} {p : Nat → Prop} {n : Nat} (T : Tr S H) (e : Ex B (hide S H)) (hi : σ[i]? = some (some (.ref M))) (hM : NK H M p) (hk : Den tk σ B (.int n)) (hn : n < 60)
    (k : ∀ H1 o, Ex H H1 → NK (upd H1 M o) M (fun l => p l ∨ l = n) → D.nx σ (upd H1 M o)) : sDPut (tVar i) tk (tC (.bl true)) D σ H :=
  ⟨.ref M, hi, hk S H T e _ fun y H1 e1 hy => by
    cases hy
    obtain ⟨kvs, h1, h2, h3⟩ := (hM.up e1).put hn
    exact ⟨M, _, rfl, DPut.k (k := .inl (n : Int)) h1 h2, k H1 _ e1 (h3 _)⟩⟩
end

section
variable {P : Program} {w : World} {K : PySem.W.Frag} {mg : Str → Option Value} {base : Heap}
def optL : Option (List (List Nat)) → PyData
  | none => .none
  | some t => layD t
def RLeast : List PyData → PyData → Prop := fun ds d => ∃ h wd s g, PicOk h wd ∧ ds = [picD h wd s, picD h wd g] ∧ d = optL (LP.least h wd s g)
theorem Ok.cells (L : List (Nat × Nat)) : ∀ x ∈ L.map cellD, Ok 1 x := fun x hx => by
  obtain ⟨p, _, rfl⟩ := List.mem_map.mp hx
  refine .tuple fun y hy => ?_
  rcases List.mem_cons.mp hy with rfl | hy
  · exact .int
  · rcases List.mem_cons.mp hy with rfl | hy
    · exact .int
    · cases hy
theorem differ_len {h wd : Nat} {s g : LP.Pic} (k : PicOk h wd) : (LP.differ h wd s g).length ≤ 900 := by
  obtain ⟨k1, k2, k3, k4⟩ := k
  unfold LP.differ
  rw [List.length_flatMap]
  have := sum_le (xs := List.range h) (ys := fun i => (((List.range wd).filter fun j => s i j != g i j).map fun j => (i, j))) (m := 30) fun i _ => by
    rw [List.length_map]
    exact Nat.le_trans (List.length_filter_le _ _) (by rw [List.length_range]; omega)
  rw [List.length_range] at this
  exact Nat.le_trans this (Nat.le_trans (Nat.mul_le_mul_right 30 k2) (by decide))
theorem hide_list {H : Hp} {S : List Addr} {L : Addr} {acc : List V} {ds : List PyData} (hn : L ∉ S) (h : H L = some (.lst acc)) (hd : DnAll (hide (L :: S) H) acc ds) : Dn (hide S H) (.ref L) (.list ds) := by
  refine .lst ?_ (hd.up hide_less)
  rw [hide_at hn]
  exact h
theorem ok_least_of (T : Tx mg) (h : At K mg "least_of" s_least_of ["start", "goal"]) (c_differing : Prom P w K mg base "differing" ["start", "goal"] 1 (SpR RDiffering)) (c_layers_of : Prom P w K mg base "layers_of" ["picture"] 2 (SpR RLayers))
    (c_trimmed : Prom P w K mg base "trimmed" ["found"] 1 (SpR RTrimmed)) (c_meets : Prom P w K mg base "meets" ["picture", "cell", "lines"] 1 spMeets) :
    Prom P w K mg base "least_of" ["start", "goal"] 3 (SpR RLeast) := by
  refine prom_R h sc_least_of (fun ds d hR => by obtain ⟨_, _, _, _, _, rfl, _⟩ := hR; rfl) fun f cdv A outer s H vs Q E S ds d hr Tr1 hv hR q => ?_
  obtain ⟨hh, wd, ps, pg, k, rfl, rfl⟩ := hR
  obtain ⟨k1, k2, k3, k4⟩ := id k
  cases hv with
  | @cons v1 _ _ _ h1 t =>
   cases t with
   | @cons v2 _ _ _ h2 t =>
    cases t
    refine ⟨_, (pss_cons (ps_par (i := 2) (j := 3) rfl sc_least_of.nd rfl rfl (by decide) rfl rfl (pa_cons (pe_callP c_differing (hr.mono (by decide)) (by rfl) (pa_cons (pv 0) (pa_cons (pv 1) pa_nil))) (pa_cons (pe_lst pa_nil) pa_nil)) (by rfl))
      (pss_cons (ps_for PassesOwn.never rfl (pi_seqK (K := K) (pe_callP c_layers_of (hr.mono (by decide)) (by rfl) (pa_cons (pv 1) pa_nil))) (pg_name (i := 4) sc_least_of.nd rfl (.inl rfl)) (pss_cons (ps_if (pt_cmpR (k_eq (K := K) hr.units) (pv 2) (pe_lst pa_nil) (nomark _)) (pss_one (ps_ret (pe_callP c_trimmed (hr.mono (by decide)) (by rfl) (pa_cons (pv 3) pa_nil)))) pss_nil)
      (pss_cons (ps_set (i := 6) sc_least_of.nd rfl (.inr rfl) (pe_dc (own := [("line", 5)])  rfl sc_least_of.nd (pi_seqK (K := K) (pv 4)) (blkOk_by (N := n_least_of) (sc := defScope s_least_of) (by decide +kernel)) (fun _ _ _ _ _ => (pg_name (i := 5) sc_least_of.nd rfl (.inl rfl))) (fun _ _ _ _ _ => pts_nil) (fun _ _ _ _ _ => (pv 5)) (fun _ _ _ _ _ => pe_bl)))
      (pss_cons (ps_set (i := 7) sc_least_of.nd rfl (.inl rfl) pe_dnewK)
      (pss_cons (ps_for PassesOwn.never rfl (pi_seqK (K := K) (pv 2)) (pg_tupK (K := K) (n := 2) (by rfl) (pgs_cons (pg_name (i := 8) sc_least_of.nd rfl (.inl rfl)) (pgs_cons (pg_name (i := 9) sc_least_of.nd rfl (.inl rfl)) pgs_nil))) (pss_one (ps_for PassesOwn.never rfl (pi_seqK (K := K) (pe_tup (pa_cons (pv 8) (pa_cons (pe_op op_addA (pe_callB (k_len (K := K)) (by rfl) T.len_ (by decide +kernel) (pa_cons (pv 0) pa_nil)) (pv 9)) pa_nil)))) (pg_name (i := 5) sc_least_of.nd rfl (.inl rfl)) (pss_one (ps_if (pt_cmp (pc_din (hu_of hr) (pv 5) (pv 6))) (pss_one (ps_dput (hu_of hr) (pv 7) (pv 5) pe_bl rfl)) pss_nil)))))
      (pss_cons (ps_expr (pe_bm PySem.F.plainAttrs_list PySem.F.slot_list_append PySem.F.type_list_append mt_append (pv 3) (pa_cons (pe_tup (pa_cons (pv 4) (pa_cons (pe_callB (call_sortedDI rfl) (by rfl) T.sorted_ (by decide +kernel) (pa_cons (pv 7) pa_nil)) pa_nil))) pa_nil)))
      (pss_one (ps_setLc (i := 2) (own := [("cell", 10)])  rfl sc_least_of.nd rfl rfl (sw_true rfl rfl rfl (by decide +kernel)) (pi_seqK (K := K) (pv 2)) (blkOk_by (N := n_least_of) (sc := defScope s_least_of) (by decide +kernel)) (fun _ _ _ _ _ => (pg_name (i := 10) sc_least_of.nd rfl (.inl rfl))) (fun _ _ _ _ _ => pts_one (pt_not (pt_val (pe_callP c_meets (hr.mono (by decide)) (by rfl) (pa_cons (pv 0) (pa_cons (pv 10) (pa_cons (pv 6) pa_nil))))))) (fun _ _ _ _ _ => (pv 10))))))))))
      (pss_one (ps_ret (pe_ifExp (pt_cmpR (k_eq (K := K) hr.units) (pv 2) (pe_lst pa_nil) (nomark _)) (pe_callP c_trimmed (hr.mono (by decide)) (by rfl) (pa_cons (pv 3) pa_nil)) pe_non))))), ?_⟩
    refine q_parNew Tr1 (Ex.refl _) (den_call (dena_cons (den_var rfl h1) (dena_cons (den_var rfl h2) dena_nil)) ⟨hh, wd, ps, pg, k, rfl, rfl⟩) fun vl L H1 e1 hl hL => ?_
    have HL : H L = none := fresh_back e1 hL
    have nL : L ∉ S := Tr1.not HL
    have T1 : Tr (L :: S) (upd H1 L (.lst [])) := ((Tr1.up e1).up (Ex.new hL)).cons upd_same
    have o1 : Ex (hide S H1) (hide (L :: S) (upd H1 L (.lst []))) := hide_open hL (Ex.new hL)
    have a1 := (h1.up (hide_up (S := S) e1)).up o1
    have a2 := (h2.up (hide_up (S := S) e1)).up o1
    have al := hl.up o1
    refine q_forD (LP.layers hh wd pg) (fun s => .list (natL s)) T1 (Ex.refl _) (it_list (den_call (dena_cons (den_var rfl a2) dena_nil) ⟨hh, wd, pg, k, rfl, rfl⟩)) fun H2 e2 => ?_
    let B := hide (L :: S) H2
    have b1 : Dn B v1 (picD hh wd ps) := a1.up (hide_up e2)
    refine ⟨fun i σ' H' => ∃ (vl : V) (acc : List V) (left : List (Nat × Nat)) (F : List (List Nat × List Nat)) (y4 y5 y6 y7 y8 y9 y10 : Option V), σ' = [some v1, some v2, some vl, some (.ref L), y4, y5, y6, y7, y8, y9, y10] ∧
      Ex H H' ∧ Ex B (hide (L :: S) H') ∧ H' L = some (.lst acc) ∧ acc.length = i ∧ F.length = i ∧ left.length ≤ 900 ∧ Dn (hide (L :: S) H') vl (.list (left.map cellD)) ∧ DnAll (hide (L :: S) H') acc (fndD F) ∧
      LP.leastGo hh ((LP.layers hh wd pg).drop i) left F = LP.least hh wd ps pg,
      ⟨vl, [], LP.differ hh wd ps pg, [], none, none, none, none, none, none, none, rfl, (Ex.mut e1 HL).trans e2, Ex.refl _, e2 L _ upd_same, rfl, rfl, differ_len k, al.up (hide_up e2), .nil, rfl⟩,
      fun i σ' H' ⟨_, _, _, _, _, _, _, _, _, _, _, _, _, eB, _⟩ => eB.trans hide_le, ?_, ?_⟩
    · rintro i a σ' H' v H'' hget ⟨vl, acc, left, F, y4, y5, y6, y7, y8, y9, y10, rfl, eH, eB, hacc, hlen, hF, hll, hleft, hfnd, hgo⟩ e3 hv
      have hi : i < (LP.layers hh wd pg).length := (List.getElem?_eq_some_iff.mp hget).1
      have hi60 : i < 60 := Nat.lt_of_lt_of_le hi (Nat.le_trans (LP.layers_len hh wd pg) (by omega))
      have hdrop : (LP.layers hh wd pg).drop i = a :: (LP.layers hh wd pg).drop (i + 1) := by
        rw [List.drop_eq_getElem_cons hi]
        congr 1
        exact (List.getElem?_eq_some_iff.mp hget).2
      have ham : a ∈ LP.layers hh wd pg := List.mem_of_getElem? hget
      obtain ⟨asort, abound⟩ := LP.layers_sorted ham
      have asz := LP.layers_size ham
      have T2 : Tr (L :: S) H' := (Tr1.up eH).cons hacc
      have hv0 := hv (L :: S) T2 eB
      have l3 := hleft.up (hide_up (S := L :: S) e3)
      refine asg_name (L :: S) H'' v (T2.up e3) hv0 _ fun σ2 ⟨x, hx, ex⟩ => ?_
      subst ex
      refine q_whenD (T2.up e3) (Ex.refl _) (tst_test (den_op (den_var rfl l3) (den_lst dena_nil (by show 0 ≤ 100000; decide)) (rd_eqL (Ok.list (Ok.cells left)) (by decide)))) (fun hb H4 e4 => ?_) fun hb H4 e4 => ?_
      · have hn : left = [] := List.map_eq_nil_iff.mp (List.isEmpty_iff.mp hb)
        subst hn
        have e34 := e3.trans e4
        have hL4 : Dn (hide S H4) (.ref L) (.list (fndD F)) := hide_list nL (e34 L _ hacc) (hfnd.up (hide_up e34))
        refine s_retD (Tr1.up (eH.trans e34)) (Ex.refl _) (den_call (dena_cons (den_var rfl hL4) dena_nil) ⟨F, by omega, rfl, rfl⟩) fun v5 H5 e5 hv5 => q v5 H5 ((eH.trans e34).trans e5) ?_
        rw [hdrop] at hgo
        unfold LP.leastGo at hgo
        rw [if_pos rfl] at hgo
        rw [← hgo]
        exact hv5
      · have hne : left ≠ [] := fun z => by
          subst z
          cases hb
        have e34 := e3.trans e4
        have T4 := T2.up e34
        have x4 := hx.up (hide_up (S := L :: S) e4)
        refine q_setM T4 (Ex.refl _) (den_dc a (fun (l : Nat) => PyData.int (l : Int)) _ (fun (l : Nat) => (l : Int)) (.bool true) (it_list (den_var rfl x4)) (by omega) (fun _ _ => asg_name) fun l hlm B1 σ1 eB1 ⟨x, hx, ex⟩ => by
          subst ex
          exact ⟨rfl, den_var rfl hx, den_bl⟩) fun ta H5 e5 hta => ?_
        have e35 := e34.trans e5
        have T5 := T2.up e35
        have l5 := hleft.up (hide_up (S := L :: S) e35)
        have x5 := hx.up (hide_up (S := L :: S) (e4.trans e5))
        have b15 : Dn (hide (L :: S) H5) v1 (picD hh wd ps) := (b1.up eB).up (hide_up e35)
        refine q_newK fun M hM => ?_
        have nM : M ∉ L :: S := T5.not hM
        have TM : Tr (M :: L :: S) (upd H5 M (.dK [])) := (T5.up (Ex.new hM)).cons upd_same
        have oM : Ex (hide (L :: S) H5) (hide (M :: L :: S) (upd H5 M (.dK []))) := hide_open hM (Ex.new hM)
        refine q_forD left cellD TM (Ex.refl _) (it_list (den_var rfl (l5.up oM))) fun H6 e6 => ?_
        have oM6 := oM.trans (hide_up (S := M :: L :: S) e6)
        refine ⟨fun j σ' H' => ∃ (y5 y8 y9 : Option V), σ' = [some v1, some v2, some vl, some (.ref L), some x, y5, some (.ref ta), some (.ref M), y8, y9, y10] ∧
          Ex H5 H' ∧ Ex (hide (M :: L :: S) H6) (hide (M :: L :: S) H') ∧ NK H' M (fun l => l ∈ a ∧ ∃ c ∈ left.take j, LP.hit hh c l = true),
          ⟨y5, y8, y9, rfl, (Ex.new hM).trans e6, Ex.refl _, ⟨[], [], e6 M _ upd_same, rfl, .nil, fun l => by simp, by simp⟩⟩, fun _ _ _ ⟨_, _, _, _, _, eB, _⟩ => eB.trans hide_le, ?_, ?_⟩
        · rintro j c σ' H7 v H8 hgc ⟨z5, z8, z9, rfl, e57, eB7, hN7⟩ e78 hv8
          obtain ⟨kv7, _, hM7, _⟩ := id hN7
          have T7 : Tr (M :: L :: S) H7 := (T5.up e57).cons hM7
          have eB8 := eB7.trans (hide_up (S := M :: L :: S) e78)
          have eo8 := oM6.trans eB8
          refine asg_pair (M :: L :: S) H8 v (T7.up e78) (hv8 _ T7 eB7) _ fun σ2 ⟨x8, x9, hx8, hx9, ex⟩ => ?_
          subst ex
          have c1 : (hh + c.2 : Nat) = (hh : Int) + (c.2 : Int) := Int.natCast_add _ _
          refine s_forD [c.1, hh + c.2] (fun (l : Nat) => PyData.int (l : Int)) (T7.up e78) (Ex.refl _) (it_tup (den_tup (dena_cons (den_var rfl hx8) (dena_cons ((den_op (den_len_pic (den_var rfl (b15.up eo8))) (den_var rfl hx9) rd_addI).to (congrArg PyData.int c1.symm)) dena_nil)) (by show 2 ≤ 100000; decide))) fun H9 e9 => ?_
          have e89 := e78.trans e9
          refine ⟨fun m σ' H' => ∃ (y5 : Option V), σ' = [some v1, some v2, some vl, some (.ref L), some x, y5, some (.ref ta), some (.ref M), some x8, some x9, y10] ∧
            Ex H5 H' ∧ Ex (hide (M :: L :: S) H9) (hide (M :: L :: S) H') ∧ NK H' M (fun l => l ∈ a ∧ ((∃ c ∈ left.take j, LP.hit hh c l = true) ∨ l ∈ [c.1, hh + c.2].take m)),
            ⟨z5, rfl, e57.trans e89, Ex.refl _, (hN7.up e89).to fun l => by simp⟩, fun _ _ _ ⟨_, _, _, eB, _⟩ => eB.trans hide_le, ?_, ?_⟩
          · rintro m l σ' H10 v H11 hgl ⟨w5, rfl, e5a, eB10, hN10⟩ e1011 hv11
            obtain ⟨kv10, _, hM10, _⟩ := id hN10
            have T10 : Tr (M :: L :: S) H10 := (T5.up e5a).cons hM10
            have eB11 := eB10.trans (hide_up (S := M :: L :: S) e1011)
            have htake : [c.1, hh + c.2].take (m + 1) = [c.1, hh + c.2].take m ++ [l] := by
              rw [List.take_add_one, hgl]
              rfl
            refine asg_name (M :: L :: S) H11 v (T10.up e1011) (hv11 _ T10 eB10) _ fun σ2 ⟨xl, hxl, ex⟩ => ?_
            subst ex
            have hta11 := hta.up ((eo8.trans (hide_up (S := M :: L :: S) e9)).trans eB11)
            refine s_whenD (T10.up e1011) (Ex.refl _) (tst_B (den_din (den_var rfl hxl) rfl hta11)) (fun hb H12 e12 => ?_) fun hb H12 e12 => ?_
            · have hla : l ∈ a := by
                rw [cast_mem] at hb
                exact of_decide_eq_true hb
              refine s_putK ((T10.up e1011).up e12) (Ex.refl _) rfl (hN10.up (e1011.trans e12)) (den_var rfl (hxl.up (hide_up e12))) (by have := abound l hla; omega) fun H13 o e13 hN13 => ?_
              refine ⟨_, rfl, Ex.mut ((e5a.trans e1011).trans (e12.trans e13)) hM, ?_, hN13.to fun l' => ?_⟩
              · rw [hide_upd]
                exact eB11.trans (hide_up (e12.trans e13))
              · rw [htake, List.mem_append, List.mem_singleton]
                constructor
                · rintro (⟨z1, z2 | z2⟩ | rfl)
                  · exact ⟨z1, .inl z2⟩
                  · exact ⟨z1, .inr (.inl z2)⟩
                  · exact ⟨hla, .inr (.inr rfl)⟩
                · rintro ⟨z1, z2 | z2 | z2⟩
                  · exact .inl ⟨z1, .inl z2⟩
                  · exact .inl ⟨z1, .inr z2⟩
                  · exact .inr z2
            · have hla : l ∉ a := by
                rw [cast_mem] at hb
                exact of_decide_eq_false hb
              refine ⟨_, rfl, (e5a.trans e1011).trans e12, eB11.trans (hide_up e12), (hN10.up (e1011.trans e12)).to fun l' => ?_⟩
              rw [htake, List.mem_append, List.mem_singleton]
              constructor
              · rintro ⟨z1, z2 | z2⟩
                · exact ⟨z1, .inl z2⟩
                · exact ⟨z1, .inr (.inl z2)⟩
              · rintro ⟨z1, z2 | z2 | z2⟩
                · exact ⟨z1, .inl z2⟩
                · exact ⟨z1, .inr z2⟩
                · rw [z2] at z1
                  exact absurd z1 hla
          · rintro σ' H10 ⟨w5, rfl, e5a, eB10, hN10⟩
            refine ⟨_, _, _, rfl, e5a, (eB8.trans (hide_up (S := M :: L :: S) e9)).trans eB10, hN10.to fun l => ?_⟩
            rw [show left.take (j + 1) = left.take j ++ [c] by rw [List.take_add_one, hgc]; rfl]
            unfold LP.hit
            constructor
            · rintro ⟨z1, ⟨c', z2, z3⟩ | z2⟩
              · exact ⟨z1, c', List.mem_append_left _ z2, z3⟩
              · refine ⟨z1, c, List.mem_append_right _ List.mem_cons_self, ?_⟩
                have z2 : l ∈ [c.1, hh + c.2] := z2
                simp at z2
                simpa using z2
            · rintro ⟨z1, c', z2, z3⟩
              rcases List.mem_append.mp z2 with z2 | z2
              · exact ⟨z1, .inl ⟨c', z2, z3⟩⟩
              · rw [List.mem_singleton.mp z2] at z3
                refine ⟨z1, .inr ?_⟩
                show l ∈ [c.1, hh + c.2]
                simp at z3
                simpa using z3
        · rintro σ' H7 ⟨z5, z8, z9, rfl, e57, eB7, hN7⟩
          have e37 := e35.trans e57
          have T7 : Tr (L :: S) H7 := T2.up e37
          have hN7' : NK (hide (L :: S) H7) M (fun l => l ∈ a ∧ ∃ c ∈ left.take left.length, LP.hit hh c l = true) := by
            obtain ⟨kvs, ks, z1, z2⟩ := hN7
            exact ⟨kvs, ks, by rw [hide_at nM]; exact z1, z2⟩
          have x7 := hx.up (hide_up (S := L :: S) ((e4.trans e5).trans e57))
          refine q_appD T7 (Ex.refl _) rfl (e37 L _ hacc) (by omega) (den_tup (dena_cons (den_var rfl x7) (dena_cons (den_sortedD (N := LP.needed hh a left) rfl hN7' (asort.filter _) fun l => by
            unfold LP.needed
            rw [List.take_length, List.mem_filter, List.any_eq_true]) dena_nil)) (by show 2 ≤ 100000; decide)) fun xa H8 e8 hxa => ?_
          have e38 := e37.trans e8
          have T8 : Tr (L :: S) (upd H8 L (.lst (acc ++ [xa]))) := (Tr1.up (Ex.mut (eH.trans e38) HL)).cons upd_same
          have eK : Ex (hide (L :: S) H') (hide (L :: S) (upd H8 L (.lst (acc ++ [xa])))) := by
            rw [hide_upd]
            exact hide_up e38
          have eK5 : Ex (hide (L :: S) H5) (hide (L :: S) (upd H8 L (.lst (acc ++ [xa])))) := by
            rw [hide_upd]
            exact hide_up (e57.trans e8)
          have l8 := hleft.up eK
          have p8 := (b1.up eB).up eK
          have t8 := hta.up eK5
          have xa8 : Dn (hide (L :: S) (upd H8 L (.lst (acc ++ [xa])))) xa (.tuple [.list (natL a), .list (natL (LP.needed hh a left))]) := by
            rw [hide_upd]
            exact hxa
          refine s_setD T8 (Ex.refl _) (Den.to (den_lc left cellD _ (fun c => !LP.meets hh c a) cellD (it_list (den_var rfl l8)) (by omega) (fun _ _ => asg_name) fun c hc B1 σ1 eB1 ⟨y, hy, ey⟩ => by
            subst ey
            exact ⟨rfl, Tst.to (tst_not (tst_B (den_meets k (den_var rfl (p8.up eB1)) (den_var rfl hy) rfl (t8.up eB1)))) (by rw [cast_mem, cast_mem]; rfl), fun _ => den_var rfl hy⟩) (show _ = PyData.list ((LP.rest hh a left).map cellD) from rfl)) fun y H10 e10 hy => ?_
          refine ⟨y, acc ++ [xa], LP.rest hh a left, F ++ [(a, LP.needed hh a left)], _, _, _, _, _, _, _, rfl, (Ex.mut (eH.trans e38) HL).trans e10, (eB.trans eK).trans (hide_up e10), e10 L _ upd_same, ?_, ?_, Nat.le_trans (List.length_filter_le _ _) hll, hy, ?_, ?_⟩
          · rw [List.length_append, List.length_singleton, hlen]
          · rw [List.length_append, List.length_singleton, hF]
          · unfold fndD
            rw [List.map_append]
            exact DnAll.snoc ((hfnd.up eK).up (hide_up e10)) (xa8.up (hide_up e10))
          · rw [← hgo, hdrop]
            conv => rhs; unfold LP.leastGo
            rw [if_neg hne]
    · rintro σ' H' ⟨vl, acc, left, F, y4, y5, y6, y7, y8, y9, y10, rfl, eH, eB, hacc, hlen, hF, hll, hleft, hfnd, hgo⟩
      have hF60 := LP.layers_len hh wd pg
      rw [List.drop_length] at hgo
      unfold LP.leastGo at hgo
      have hL4 : Dn (hide S H') (.ref L) (.list (fndD F)) := hide_list nL hacc hfnd
      have l4 : Dn (hide S H') vl (.list (left.map cellD)) := hleft.up hide_less
      refine s_retD (Tr1.up eH) (Ex.refl _) (den_if (tst_test (den_op (den_var rfl l4) (den_lst dena_nil (by show 0 ≤ 100000; decide)) (rd_eqL (Ok.list (Ok.cells left)) (by decide)))) (fun hb => Den.to (den_call (dena_cons (den_var rfl hL4) dena_nil) ⟨F, by omega, rfl, rfl⟩) ?_) fun hb => Den.to den_non ?_) fun v5 H5 e5 hv5 => q v5 H5 (eH.trans e5) hv5
      · have hn : left = [] := List.map_eq_nil_iff.mp (List.isEmpty_iff.mp hb)
        rw [if_pos hn] at hgo
        rw [← hgo]
        rfl
      · have hn : left ≠ [] := fun z => by
          subst z
          cases hb
        rw [if_neg hn] at hgo
        rw [← hgo]
        rfl
end
end LPW

/-! ## LpW6 -/
/-! few, need_list, need_like, need_pictures, table, along, reached_all, from_all, free_ones, same_core. -/
namespace LPW
open PySem PySem.Spec PyProof.Rows L2 Evl

/-! ### plain -/
theorem least_len {h : Nat} : ∀ {L : List (List Nat)} {left : List (Nat × Nat)} {F : List (List Nat × List Nat)} {t : List (List Nat)}, LP.leastGo h L left F = some t → t.length ≤ F.length + L.length
  | [], left, F, t, e => by
    unfold LP.leastGo at e
    split at e
    · cases e
      exact Nat.le_trans (trim_len F) (Nat.le_add_right _ _)
    · cases e
  | s :: r, left, F, t, e => by
    unfold LP.leastGo at e
    split at e
    · cases e
      exact Nat.le_trans (trim_len F) (Nat.le_add_right _ _)
    · have := least_len e
      rw [List.length_append, List.length_singleton] at this
      rw [List.length_cons]
      omega
where
  trim_len (F : List (List Nat × List Nat)) : (LP.trimmed F).length ≤ F.length := by
    unfold LP.trimmed
    split
    · exact Nat.zero_le _
    · rename_i x hx
      have hne : F ≠ [] := fun z => by rw [z] at hx; cases hx
      have hpos := List.length_pos_iff.mpr hne
      rw [List.length_append, List.length_map, List.length_dropLast, List.length_singleton]
      omega
theorem sum_cast (xs : List Nat) : (xs.map fun (n : Nat) => (n : Int)).sum = ((xs.sum : Nat) : Int) := by
  induction xs with
  | nil => rfl
  | cons x xs ih =>
    rw [List.map_cons, List.sum_cons, List.sum_cons, ih, Int.natCast_add]
def optN : Option Nat → PyData
  | none => .none
  | some n => .int (n : Int)
theorem isNone_optN (o : Option Nat) : isNone (optN o) = !o.isSome := by cases o <;> rfl
theorem isNone_optL (o : Option (List (List Nat))) : isNone (optL o) = !o.isSome := by cases o <;> rfl
def valD (h w m : Nat) (p : Nat → LP.Pic) : PyData := .tuple ((List.range m).map fun i => picD h w (p i))
def can (h w : Nat) (s g : LP.Pic) : Bool := (LP.few h w s g).isSome
theorem can_least (h w : Nat) (s g : LP.Pic) : (LP.least h w s g).isSome = can h w s g := by
  unfold can LP.few
  rw [Option.isSome_map]
def VOk (h w m : Nat) : Prop := PicOk h w ∧ 1 ≤ m ∧ m ≤ 20
def consP (s : LP.Pic) (p : Nat → LP.Pic) : Nat → LP.Pic
  | 0 => s
  | i + 1 => p i
theorem valD_cons (h w m : Nat) (s : LP.Pic) (p : Nat → LP.Pic) : PyData.tuple (picD h w s :: ((List.range m).map fun i => picD h w (p i)) ++ []) = valD h w (m + 1) (consP s p) := by
  unfold valD
  rw [List.range_succ_eq_map, List.map_cons, List.map_map, List.append_nil]
  rfl

section
variable {P : Program} {w : World} {K : PySem.W.Frag} {mg : Str → Option Value} {base : Heap}
def RFew : List PyData → PyData → Prop := fun ds d => ∃ h wd s g, PicOk h wd ∧ ds = [picD h wd s, picD h wd g] ∧ d = optN (LP.few h wd s g)
theorem ok_few (T : Tx mg) (h : At K mg "few" s_few ["start", "goal"]) (c_least_of : Prom P w K mg base "least_of" ["start", "goal"] 3 (SpR RLeast)) :
    Prom P w K mg base "few" ["start", "goal"] 4 (SpR RFew) := by
  refine prom_R h sc_few (fun ds d hR => by obtain ⟨_, _, _, _, _, rfl, _⟩ := hR; rfl) fun f cdv A outer s H vs Q E S ds d hr Tr1 hv hR q => ?_
  obtain ⟨hh, wd, ps, pg, k, rfl, rfl⟩ := hR
  obtain ⟨k1, k2, k3, k4⟩ := id k
  cases hv with
  | @cons v1 _ _ _ h1 t =>
   cases t with
   | @cons v2 _ _ _ h2 t =>
    cases t
    refine ⟨_, (pss_cons (ps_set (i := 2) sc_few.nd rfl (.inl rfl) (pe_callP c_least_of (hr.mono (by decide)) (by rfl) (pa_cons (pv 0) (pa_cons (pv 1) pa_nil))))
      (pss_one (ps_ret (pe_ifExp (pt_cmpR op_notNA (pv 2) pe_non (nomark _)) (pe_callB (k_sum (K := K) rfl) (by rfl) T.sum_ (by decide +kernel) (pa_cons (pe_lc (own := [("some", 3)])  rfl sc_few.nd (pi_seqK (K := K) (pv 2)) (blkOk_by (N := n_few) (sc := defScope s_few) (by decide +kernel)) (fun _ _ _ _ _ => (pg_name (i := 3) sc_few.nd rfl (.inl rfl))) (fun _ _ _ _ _ => pts_nil) (fun _ _ _ _ _ => (pe_callB (k_len (K := K)) (by rfl) T.len_ (by decide +kernel) (pa_cons (pv 3) pa_nil)))) pa_nil)) pe_non)))), ?_⟩
    refine q_setD Tr1 (Ex.refl _) (den_call (dena_cons (den_var rfl h1) (dena_cons (den_var rfl h2) dena_nil)) ⟨hh, wd, ps, pg, k, rfl, rfl⟩) fun x H1 e1 hx => ?_
    have hlen : ∀ t, LP.least hh wd ps pg = some t → t.length ≤ 60 := fun t e => by
      have := least_len e
      have := LP.layers_len hh wd pg
      simp at *
      omega
    have e : LP.few hh wd ps pg = (LP.least hh wd ps pg).map fun t => (t.map List.length).sum := rfl
    rw [e] at q
    clear e
    generalize LP.least hh wd ps pg = o at q hx hlen
    refine s_retD (Tr1.up e1) (Ex.refl _) (den_if (tst_test (den_op (den_var rfl hx) den_non rd_notN)) (fun hb => ?_) fun hb => ?_) fun v5 H5 e5 hv5 => q v5 H5 (e1.trans e5) hv5
    · cases o with
      | none => cases hb
      | some t =>
        have h60 := hlen t rfl
        refine Den.to (den_sum (xs := t) (b := fun s => (s.length : Int)) (den_lcM t (fun s => .list (natL s)) _ (fun s => .int (s.length : Int)) (it_list (den_var rfl hx)) (by omega) (fun _ _ => asg_name) fun s hs B1 σ1 eB ⟨y, hy, ey⟩ => by
          subst ey
          exact ⟨rfl, (den_cb (dena_cons (den_var rfl hy) dena_nil) rc_lenL).to (by unfold natL; rw [List.length_map])⟩)) ?_
        show _ = PyData.int (((t.map List.length).sum : Nat) : Int)
        rw [← sum_cast, List.map_map]
        rfl
    · cases o with
      | none => exact den_non
      | some t => cases hb

/-! ### tuples of pictures -/
def RNeedList : List PyData → PyData → Prop := fun ds d => ∃ h wd m p, VOk h wd m ∧ ds = [valD h wd m p] ∧ d = .none
theorem den_len_val {te : TE} {σ : L2.St} {B : Hp} {h wd m : Nat} {p : Nat → LP.Pic} (hv : Den te σ B (valD h wd m p)) : Den (tCB (rLenA K) (tCons te tNil)) σ B (.int m) := (den_cb (dena_cons hv dena_nil) rc_lenT).to (by rw [List.length_map, List.length_range])
theorem val_at {m i : Nat} (h wd : Nat) (p : Nat → LP.Pic) (hi : i < m) : ((List.range m).map fun i => picD h wd (p i))[i]? = some (picD h wd (p i)) := by
  rw [List.getElem?_map, List.getElem?_range hi]
  rfl
theorem den_at_val {te ti : TE} {σ : L2.St} {B : Hp} {h wd m i : Nat} {p : Nat → LP.Pic} (hv : Den te σ B (valD h wd m p)) (hi : Den ti σ B (.int (i : Int))) (hl : i < m) : Den (tOp (rIx K) te ti) σ B (picD h wd (p i)) := den_op hv hi (rd_ixT (val_at h wd p hl))
theorem it_val {te : TE} {σ : L2.St} {B : Hp} {h wd m : Nat} {p : Nat → LP.Pic} (hv : Den te σ B (valD h wd m p)) : ItD (iSeq K te) σ B ((List.range m).map fun i => picD h wd (p i)) := it_tup hv
theorem it_enum_val {te : TE} {σ : L2.St} {B : Hp} {h wd m : Nat} {p : Nat → LP.Pic} (hv : Den te σ B (valD h wd m p)) : ItD (iEnumA K (tCons te tNil)) σ B ((List.range m).map fun (i : Nat) => PyData.tuple [.int (i : Int), picD h wd (p i)]) := by
  rw [← enumD_range m fun i => picD h wd (p i)]
  exact it_enumT (dena_cons hv dena_nil)
theorem ok_need_list (T : Tx mg) (h : At K mg "need_list" s_need_list ["value"]) (c_need_number : Prom P w K mg base "need_number" ["value", "least", "most"] 3 (SpR RNeedNumber)) (c_need_picture : Prom P w K mg base "need_picture" ["value"] 2 (SpR RNeedPicture)) :
    Prom P w K mg base "need_list" ["value"] 4 (SpR RNeedList) := by
  refine prom_R h sc_need_list (fun ds d hR => by obtain ⟨_, _, _, _, _, rfl, _⟩ := hR; rfl) fun f cdv A outer s H vs Q E S ds d hr Tr1 hv hR q => ?_
  obtain ⟨hh, wd, m, p, ⟨k, m1, m2⟩, rfl, rfl⟩ := hR
  cases hv with
  | @cons v1 _ _ _ h1 t =>
    cases t
    refine ⟨_, (pss_cons (ps_expr (pe_callP c_need_number (hr.mono (by decide)) (by rfl) (pa_cons (pe_ifExp (pt_val (pe_callB (k_isi (K := K)) (by rfl) T.isinstance_ (by decide +kernel) (pa_cons (pv 0) (pa_cons (pe_tyv (T := "tuple") T.tuple_ (by rfl) (by decide +kernel)) pa_nil)))) (pe_callB (k_len (K := K)) (by rfl) T.len_ (by decide +kernel) (pa_cons (pv 0) pa_nil)) pe_int) (pa_cons pe_int (pa_cons (pe_globI T.MOST_PICTURES (by rfl)) pa_nil)))))
      (pss_one (ps_for PassesOwn.never rfl (pi_seqK (K := K) (pv 0)) (pg_name (i := 1) sc_need_list.nd rfl (.inl rfl)) (pss_one (ps_expr (pe_callP c_need_picture (hr.mono (by decide)) (by rfl) (pa_cons (pv 1) pa_nil))))))), ?_⟩
    refine q_dropD Tr1 (Ex.refl _) (den_call (dena_cons (den_if (tst_B (den_isi (den_var rfl h1) (show kitB "tuple" "tuple" = some true by decide +kernel))) (fun _ => den_len_val (den_var rfl h1)) fun z => nomatch z) (dena_cons den_int (dena_cons den_int dena_nil))) ⟨(m : Int), 1, 20, rfl, by omega, by omega, rfl⟩) fun H1 e1 => ?_
    have g1 := h1.up (hide_up (S := S) e1)
    refine s_forD (List.range m) (fun i => picD hh wd (p i)) (Tr1.up e1) (Ex.refl _) (it_val (den_var rfl g1)) fun H2 e2 => ?_
    refine ⟨fun i σ' H' => ∃ y : Option V, σ' = [some v1, y] ∧ Ex H2 H', ⟨none, rfl, Ex.refl _⟩, fun _ _ _ ⟨_, _, e⟩ => hide_le.trans e, ?_, ?_⟩
    · rintro i a σ' H' v H'' hg ⟨y, rfl, e3⟩ e4 hv
      have e24 := e3.trans e4
      have T4 := (Tr1.up e1).up (e2.trans e24)
      refine asg_name S H'' v T4 (hv S ((Tr1.up e1).up (e2.trans e3)) (hide_up e3)) _ fun σ2 ⟨x, hx, ex⟩ => ?_
      subst ex
      exact s_dropD T4 (Ex.refl _) (den_call (dena_cons (den_var rfl hx) dena_nil) ⟨hh, wd, p a, k, rfl, rfl⟩) fun H5 e5 => ⟨_, rfl, e24.trans e5⟩
    · rintro σ' H' ⟨y, rfl, e3⟩
      exact q _ H' ((e1.trans e2).trans e3) .non
def RNeedLike : List PyData → PyData → Prop := fun ds d => ∃ h wd m p, PicOk h wd ∧ 1 ≤ m ∧ m ≤ 30 ∧ ds = [valD h wd m p] ∧ d = .none
theorem ok_need_like (T : Tx mg) (h : At K mg "need_like" s_need_like ["value"]) : Prom P w K mg base "need_like" ["value"] 1 (SpR RNeedLike) := by
  refine prom_R h sc_need_like (fun ds d hR => by obtain ⟨_, _, _, _, _, _, _, rfl, _⟩ := hR; rfl) fun f cdv A outer s H vs Q E S ds d hr Tr1 hv hR q => ?_
  obtain ⟨hh, wd, m, p, k, m1, m2, rfl, rfl⟩ := hR
  obtain ⟨k1, k2, k3, k4⟩ := id k
  cases hv with
  | @cons v1 _ _ _ h1 t =>
    cases t
    refine ⟨_, (pss_one (ps_if (pt_val (pe_callB (k_any (K := K) rfl) (by rfl) T.any_ (by decide +kernel) (pa_cons (pe_lc (own := [("picture", 1)])  rfl sc_need_like.nd (pi_seqK (K := K) (pv 0)) (blkOk_by (N := n_need_like) (sc := defScope s_need_like) (by decide +kernel)) (fun _ _ _ _ _ => (pg_name (i := 1) sc_need_like.nd rfl (.inl rfl))) (fun _ _ _ _ _ => pts_nil) (fun _ _ _ _ _ => (pe_or (pe_cmpR (k_ne (K := K) hr.units) (pe_callB (k_len (K := K)) (by rfl) T.len_ (by decide +kernel) (pa_cons (pv 1) pa_nil)) (pe_callB (k_len (K := K)) (by rfl) T.len_ (by decide +kernel) (pa_cons (pe_ix (k_ix (K := K)) (pv 0) pe_int (fun _ _ => rfl)) pa_nil)) (nomark _)) (pe_one (pe_cmpR (k_ne (K := K) hr.units) (pe_callB (k_len (K := K)) (by rfl) T.len_ (by decide +kernel) (pa_cons (pe_ix (k_ix (K := K)) (pv 1) pe_int (fun _ _ => rfl)) pa_nil)) (pe_callB (k_len (K := K)) (by rfl) T.len_ (by decide +kernel) (pa_cons (pe_ix (k_ix (K := K)) (pe_ix (k_ix (K := K)) (pv 0) pe_int (fun _ _ => rfl)) pe_int (fun _ _ => rfl)) pa_nil)) (nomark _)))))) pa_nil))) (pss_one ps_never) pss_nil)), ?_⟩
    refine s_skip Tr1 (Ex.refl _) (Tst.to (tst_B (den_any (xs := List.range m) (b := fun _ => false) (den_lcM (List.range m) (fun i => picD hh wd (p i)) _ (fun _ => .bool false) (it_val (den_var rfl h1)) (by rw [List.length_range]; omega) (fun _ _ => asg_name) fun i hi B1 σ1 eB ⟨y, hy, ey⟩ => by
      subst ey
      have g1 := h1.up eB
      refine ⟨rfl, Den.to (den_orV (den_op (den_len_pic (den_var rfl hy)) (den_len_pic (den_at_val (i := 0) (den_var rfl g1) den_int m1)) rd_neI) fun _ => den_op (den_len_row (den_row0 (den_var rfl hy) k1) k4) (den_len_row (den_row0 (den_at_val (i := 0) (den_var rfl g1) den_int m1) k1) k4) rd_neI) ?_⟩
      rw [decide_eq_true rfl, decide_eq_true rfl]
      rfl))) (by
        rw [List.any_eq_false]
        intro _ _ z
        cases z)) fun H1 e => q _ H1 e .non
theorem ok_need_pictures (T : Tx mg) (h : At K mg "need_pictures" s_need_pictures ["value"]) (c_need_list : Prom P w K mg base "need_list" ["value"] 4 (SpR RNeedList)) (c_need_like : Prom P w K mg base "need_like" ["value"] 1 (SpR RNeedLike)) :
    Prom P w K mg base "need_pictures" ["value"] 5 (SpR RNeedList) := by
  refine prom_R h sc_need_pictures (fun ds d hR => by obtain ⟨_, _, _, _, _, rfl, _⟩ := hR; rfl) fun f cdv A outer s H vs Q E S ds d hr Tr1 hv hR q => ?_
  obtain ⟨hh, wd, m, p, ⟨k, m1, m2⟩, rfl, rfl⟩ := hR
  cases hv with
  | @cons v1 _ _ _ h1 t =>
    cases t
    refine ⟨_, (pss_cons (ps_expr (pe_callP c_need_list (hr.mono (by decide)) (by rfl) (pa_cons (pv 0) pa_nil)))
      (pss_one (ps_expr (pe_callP c_need_like (hr.mono (by decide)) (by rfl) (pa_cons (pv 0) pa_nil))))), ?_⟩
    refine q_dropD Tr1 (Ex.refl _) (den_call (dena_cons (den_var rfl h1) dena_nil) ⟨hh, wd, m, p, ⟨k, m1, m2⟩, rfl, rfl⟩) fun H1 e1 => ?_
    have g1 := h1.up (hide_up (S := S) e1)
    exact s_dropD (Tr1.up e1) (Ex.refl _) (den_call (dena_cons (den_var rfl g1) dena_nil) ⟨hh, wd, m, p, k, m1, by omega, rfl, rfl⟩) fun H2 e2 => q _ H2 (e1.trans e2) .non

/-! ### table, along -/
def tableD (h wd m : Nat) (p : Nat → LP.Pic) : PyData := .tuple ((List.range m).map fun i => .tuple ((List.range m).map fun j => optN (LP.few h wd (p i) (p j))))
def RTable : List PyData → PyData → Prop := fun ds d => ∃ h wd m p, VOk h wd m ∧ ds = [valD h wd m p] ∧ d = tableD h wd m p
theorem ok_table (T : Tx mg) (h : At K mg "table" s_table ["value"]) (c_need_pictures : Prom P w K mg base "need_pictures" ["value"] 5 (SpR RNeedList)) (c_few : Prom P w K mg base "few" ["start", "goal"] 4 (SpR RFew)) :
    Prom P w K mg base "table" ["value"] 6 (SpR RTable) := by
  refine prom_R h sc_table (fun ds d hR => by obtain ⟨_, _, _, _, _, rfl, _⟩ := hR; rfl) fun f cdv A outer s H vs Q E S ds d hr Tr1 hv hR q => ?_
  obtain ⟨hh, wd, m, p, ⟨k, m1, m2⟩, rfl, rfl⟩ := hR
  cases hv with
  | @cons v1 _ _ _ h1 t =>
    cases t
    refine ⟨_, (pss_cons (ps_expr (pe_callP c_need_pictures (hr.mono (by decide)) (by rfl) (pa_cons (pv 0) pa_nil)))
      (pss_one (ps_ret (pe_callTy (k_tup (K := K)) (by rfl) T.tuple_ (by decide +kernel) (pa_cons (pe_lc (own := [("one", 2)])  rfl sc_table.nd (pi_seqK (K := K) (pv 0)) (blkOk_by (N := n_table) (sc := defScope s_table) (by decide +kernel)) (fun _ _ _ _ _ => (pg_name (i := 2) sc_table.nd rfl (.inr rfl))) (fun _ _ _ _ _ => pts_nil) (fun _ _ _ _ _ => (pe_callTy (k_tup (K := K)) (by rfl) T.tuple_ (by decide +kernel) (pa_cons (pe_lc (own := [("other", 1)])  rfl sc_table.nd (pi_seqK (K := K) (pv 0)) (blkOk_nest (N := n_table) (sc := defScope s_table) rfl (by decide +kernel)) (fun _ _ _ _ _ => (pg_name (i := 1) sc_table.nd rfl (.inl rfl))) (fun _ _ _ _ _ => pts_nil) (fun _ _ _ _ _ => (pe_callP c_few (hr.mono (by decide)) (by rfl) (pa_cons (pv 2) (pa_cons (pv 1) pa_nil))))) pa_nil)))) pa_nil))))), ?_⟩
    refine q_dropD Tr1 (Ex.refl _) (den_call (dena_cons (den_var rfl h1) dena_nil) ⟨hh, wd, m, p, ⟨k, m1, m2⟩, rfl, rfl⟩) fun H1 e1 => ?_
    have g1 := h1.up (hide_up (S := S) e1)
    refine s_retD (Tr1.up e1) (Ex.refl _) (den_cb (dena_cons (den_lcM (List.range m) (fun i => picD hh wd (p i)) _ (fun i => .tuple ((List.range m).map fun j => optN (LP.few hh wd (p i) (p j)))) (it_val (den_var rfl g1)) (by rw [List.length_range]; omega) (fun _ _ => asg_name) fun i hi B1 σ1 eB ⟨y, hy, ey⟩ => by
      subst ey
      exact ⟨rfl, den_cb (dena_cons (den_lcM (List.range m) (fun i => picD hh wd (p i)) _ (fun j => optN (LP.few hh wd (p i) (p j))) (it_val (den_var rfl (g1.up eB))) (by rw [List.length_range]; omega) (fun _ _ => asg_name) fun j hj B2 σ2 eB2 ⟨z, hz, ez⟩ => by
        subst ez
        exact ⟨rfl, den_call (dena_cons (den_var rfl (hy.up eB2)) (dena_cons (den_var rfl hz) dena_nil)) ⟨hh, wd, p i, p j, k, rfl, rfl⟩⟩) dena_nil) rc_tupL⟩) dena_nil) rc_tupL) fun v5 H5 e5 hv5 => q v5 H5 (e1.trans e5) hv5
def steps (h wd m : Nat) (p : Nat → LP.Pic) : List (Option Nat) := (List.range (m - 1)).map fun i => LP.few h wd (p i) (p (i + 1))
def alongD (h wd m : Nat) (p : Nat → LP.Pic) : PyData := if none ∈ steps h wd m p then .none else .int (((steps h wd m p).map fun o => o.getD 0).sum : Nat)
def RAlong : List PyData → PyData → Prop := fun ds d => ∃ h wd m p, VOk h wd m ∧ ds = [valD h wd m p] ∧ d = alongD h wd m p
theorem zip_next {α : Type} (f : Nat → α) (m : Nat) : ((List.range m).map f).zip (((List.range m).map f).drop 1) = (List.range (m - 1)).map fun i => (f i, f (i + 1)) := by
  refine List.ext_getElem (by simp) fun i h1 h2 => ?_
  simp [Nat.add_comm]
theorem inD_none (xs : List (Option Nat)) : inD .none (xs.map optN) = decide (none ∈ xs) := by
  unfold inD
  induction xs with
  | nil => rfl
  | cons x xs ih =>
    rw [List.map_cons, List.any_cons, ih, Bool.eq_iff_iff]
    cases x <;> simp [optN, PyData.eqv]
theorem flat_optN (xs : List (Option Nat)) : (xs.map optN).all flatD = true := by
  rw [List.all_map, List.all_eq_true]
  intro x _
  cases x <;> rfl
theorem all_some {xs : List (Option Nat)} (h : none ∉ xs) : xs.map optN = (xs.map fun o => o.getD 0).map fun (n : Nat) => PyData.int (n : Int) := by
  rw [List.map_map]
  refine List.map_congr_left fun x hx => ?_
  cases x with
  | none => exact absurd hx h
  | some n => rfl
theorem ok_along (T : Tx mg) (h : At K mg "along" s_along ["value"]) (c_need_pictures : Prom P w K mg base "need_pictures" ["value"] 5 (SpR RNeedList)) (c_few : Prom P w K mg base "few" ["start", "goal"] 4 (SpR RFew)) :
    Prom P w K mg base "along" ["value"] 6 (SpR RAlong) := by
  refine prom_R h sc_along (fun ds d hR => by obtain ⟨_, _, _, _, _, rfl, _⟩ := hR; rfl) fun f cdv A outer s H vs Q E S ds d hr Tr1 hv hR q => ?_
  obtain ⟨hh, wd, m, p, ⟨k, m1, m2⟩, rfl, rfl⟩ := hR
  cases hv with
  | @cons v1 _ _ _ h1 t =>
    cases t
    refine ⟨_, (pss_cons (ps_expr (pe_callP c_need_pictures (hr.mono (by decide)) (by rfl) (pa_cons (pv 0) pa_nil)))
      (pss_cons (ps_setLc (i := 1) (own := [("one", 2), ("other", 3)])  rfl sc_along.nd rfl rfl (sw_true rfl rfl rfl (by decide +kernel)) (pi_zipK (K := K) (by rfl) T.zip_ (pa_cons (pv 0) (pa_cons (pe_slice (k_slT (K := K)) (pv 0) (po_some pe_int) po_none) pa_nil))) (blkOk_by (N := n_along) (sc := defScope s_along) (by decide +kernel)) (fun _ _ _ _ _ => (pg_tupK (K := K) (n := 2) (by rfl) (pgs_cons (pg_name (i := 2) sc_along.nd rfl (.inl rfl)) (pgs_cons (pg_name (i := 3) sc_along.nd rfl (.inl rfl)) pgs_nil)))) (fun _ _ _ _ _ => pts_nil) (fun _ _ _ _ _ => (pe_callP c_few (hr.mono (by decide)) (by rfl) (pa_cons (pv 2) (pa_cons (pv 3) pa_nil)))))
      (pss_one (ps_ret (pe_ifExp (pt_cmpR (k_in (K := K)) pe_non (pv 1) (by rfl)) pe_non (pe_callB (k_sum (K := K) rfl) (by rfl) T.sum_ (by decide +kernel) (pa_cons (pv 1) pa_nil))))))), ?_⟩
    refine q_dropD Tr1 (Ex.refl _) (den_call (dena_cons (den_var rfl h1) dena_nil) ⟨hh, wd, m, p, ⟨k, m1, m2⟩, rfl, rfl⟩) fun H1 e1 => ?_
    have g1 := h1.up (hide_up (S := S) e1)
    have hz : ((((List.range m).map fun i => picD hh wd (p i)).zip (((List.range m).map fun i => picD hh wd (p i)).drop 1)).map fun p => PyData.tuple [p.1, p.2]) = (List.range (m - 1)).map fun i => .tuple [picD hh wd (p i), picD hh wd (p (i + 1))] := by
      rw [zip_next, List.map_map]
      rfl
    refine q_setD (Tr1.up e1) (Ex.refl _) (Den.to (den_lcM (List.range (m - 1)) (fun i => PyData.tuple [picD hh wd (p i), picD hh wd (p (i + 1))]) _ (fun i => optN (LP.few hh wd (p i) (p (i + 1)))) (by
      rw [← hz]
      exact it_zipT (dena_cons (den_var rfl g1) (dena_cons (den_tail (den_var rfl g1) (by rw [List.length_map, List.length_range]; exact m1)) dena_nil))) (by rw [List.length_range]; omega) (fun _ _ => asg_pair) fun i hi B1 σ1 eB ⟨y, z, hy, hz, ey⟩ => by
        subst ey
        exact ⟨rfl, den_call (dena_cons (den_var rfl hy) (dena_cons (den_var rfl hz) dena_nil)) ⟨hh, wd, p i, p (i + 1), k, rfl, rfl⟩⟩) (show _ = PyData.list ((steps hh wd m p).map optN) by unfold steps; rw [List.map_map]; rfl)) fun x H2 e2 hx => ?_
    unfold alongD at q
    generalize steps hh wd m p = st at q hx
    refine s_retD ((Tr1.up e1).up e2) (Ex.refl _) (den_if (tst_test (den_op den_non (den_var rfl hx) (rd_inL rfl (flat_optN st)))) (fun hb => ?_) fun hb => ?_) fun v5 H5 e5 hv5 => q v5 H5 ((e1.trans e2).trans e5) hv5
    · have hm : none ∈ st := of_decide_eq_true (by rw [← inD_none]; exact hb)
      rw [if_pos hm]
      exact den_non
    · have hm : none ∉ st := of_decide_eq_false (by rw [← inD_none]; exact hb)
      rw [if_neg hm]
      refine Den.to (den_sum (xs := st.map fun o => o.getD 0) (b := fun (n : Nat) => (n : Int)) (Den.to (den_var rfl hx) ?_)) ?_
      · rw [all_some hm]
      · rw [sum_cast]

/-! ### reached_all, from_all, free_ones, same_core -/
def reachD (m : Nat) (ok : Nat → Bool) : PyData := .tuple (natL ((List.range m).filter ok))
def RReached : List PyData → PyData → Prop := fun ds d => ∃ h wd m p, VOk h wd m ∧ ds = [valD h wd m p] ∧ d = reachD m fun i => (List.range m).all fun j => can h wd (p i) (p j)
def RFrom : List PyData → PyData → Prop := fun ds d => ∃ h wd m p, VOk h wd m ∧ ds = [valD h wd m p] ∧ d = reachD m fun i => (List.range m).all fun j => can h wd (p j) (p i)
def RFreeOnes : List PyData → PyData → Prop := fun ds d => ∃ h wd m p, VOk h wd m ∧ ds = [valD h wd m p] ∧ d = reachD m fun i => (LP.core h wd (p i)).isEmpty
theorem ok_from_all (T : Tx mg) (h : At K mg "from_all" s_from_all ["value"]) (c_need_pictures : Prom P w K mg base "need_pictures" ["value"] 5 (SpR RNeedList)) (c_least_of : Prom P w K mg base "least_of" ["start", "goal"] 3 (SpR RLeast)) :
    Prom P w K mg base "from_all" ["value"] 6 (SpR RFrom) := by
  refine prom_R h sc_from_all (fun ds d hR => by obtain ⟨_, _, _, _, _, rfl, _⟩ := hR; rfl) fun f cdv A outer s H vs Q E S ds d hr Tr1 hv hR q => ?_
  obtain ⟨hh, wd, m, p, ⟨k, m1, m2⟩, rfl, rfl⟩ := hR
  cases hv with
  | @cons v1 _ _ _ h1 t =>
    cases t
    refine ⟨_, (pss_cons (ps_expr (pe_callP c_need_pictures (hr.mono (by decide)) (by rfl) (pa_cons (pv 0) pa_nil)))
      (pss_one (ps_ret (pe_callTy (k_tup (K := K)) (by rfl) T.tuple_ (by decide +kernel) (pa_cons (pe_lc (own := [("at", 2), ("goal", 3)])  rfl sc_from_all.nd (pi_enumK (K := K) (by rfl) T.enumerate_ (pa_cons (pv 0) pa_nil)) (blkOk_by (N := n_from_all) (sc := defScope s_from_all) (by decide +kernel)) (fun _ _ _ _ _ => (pg_tupK (K := K) (n := 2) (by rfl) (pgs_cons (pg_name (i := 2) sc_from_all.nd rfl (.inl rfl)) (pgs_cons (pg_name (i := 3) sc_from_all.nd rfl (.inr rfl)) pgs_nil)))) (fun _ _ _ _ _ => pts_one (pt_val (pe_callB (k_all (K := K) rfl) (by rfl) T.all_ (by decide +kernel) (pa_cons (pe_lc (own := [("start", 1)])  rfl sc_from_all.nd (pi_seqK (K := K) (pv 0)) (blkOk_nest (N := n_from_all) (sc := defScope s_from_all) rfl (by decide +kernel)) (fun _ _ _ _ _ => (pg_name (i := 1) sc_from_all.nd rfl (.inl rfl))) (fun _ _ _ _ _ => pts_nil) (fun _ _ _ _ _ => (pe_cmpR op_notNA (pe_callP c_least_of (hr.mono (by decide)) (by rfl) (pa_cons (pv 1) (pa_cons (pv 3) pa_nil))) pe_non (nomark _)))) pa_nil)))) (fun _ _ _ _ _ => (pv 2))) pa_nil))))), ?_⟩
    refine q_dropD Tr1 (Ex.refl _) (den_call (dena_cons (den_var rfl h1) dena_nil) ⟨hh, wd, m, p, ⟨k, m1, m2⟩, rfl, rfl⟩) fun H1 e1 => ?_
    have g1 := h1.up (hide_up (S := S) e1)
    exact s_retD (Tr1.up e1) (Ex.refl _) (den_cb (dena_cons (den_lc (List.range m) (fun (i : Nat) => PyData.tuple [.int (i : Int), picD hh wd (p i)]) _ (fun i => (List.range m).all fun j => can hh wd (p j) (p i)) (fun (i : Nat) => .int (i : Int)) (it_enum_val (den_var rfl g1)) (by rw [List.length_range]; omega) (fun _ _ => asg_pair) fun i hi B1 σ1 eB ⟨y, z, hy, hz, ey⟩ => by
      subst ey
      refine ⟨rfl, tst_B (den_all (xs := List.range m) (b := fun j => can hh wd (p j) (p i)) (den_lcM (List.range m) (fun i => picD hh wd (p i)) _ _ (it_val (den_var rfl (g1.up eB))) (by rw [List.length_range]; omega) (fun _ _ => asg_name) fun j hj B2 σ2 eB2 ⟨x, hx, ex⟩ => by
        subst ex
        refine ⟨rfl, Den.to (den_op (den_call (dena_cons (den_var rfl hx) (dena_cons (den_var rfl (hz.up eB2)) dena_nil)) ⟨hh, wd, p j, p i, k, rfl, rfl⟩) den_non rd_notN) ?_⟩
        rw [isNone_optL, can_least, Bool.not_not])), fun _ => den_var rfl hy⟩) dena_nil) rc_tupL) fun v5 H5 e5 hv5 => q v5 H5 (e1.trans e5) hv5
theorem ok_free_ones (T : Tx mg) (h : At K mg "free_ones" s_free_ones ["value"]) (c_need_pictures : Prom P w K mg base "need_pictures" ["value"] 5 (SpR RNeedList)) (c_is_free_of : Prom P w K mg base "is_free_of" ["picture"] 4 (SpR RFree)) :
    Prom P w K mg base "free_ones" ["value"] 6 (SpR RFreeOnes) := by
  refine prom_R h sc_free_ones (fun ds d hR => by obtain ⟨_, _, _, _, _, rfl, _⟩ := hR; rfl) fun f cdv A outer s H vs Q E S ds d hr Tr1 hv hR q => ?_
  obtain ⟨hh, wd, m, p, ⟨k, m1, m2⟩, rfl, rfl⟩ := hR
  cases hv with
  | @cons v1 _ _ _ h1 t =>
    cases t
    refine ⟨_, (pss_cons (ps_expr (pe_callP c_need_pictures (hr.mono (by decide)) (by rfl) (pa_cons (pv 0) pa_nil)))
      (pss_one (ps_ret (pe_callTy (k_tup (K := K)) (by rfl) T.tuple_ (by decide +kernel) (pa_cons (pe_lc (own := [("at", 1), ("picture", 2)])  rfl sc_free_ones.nd (pi_enumK (K := K) (by rfl) T.enumerate_ (pa_cons (pv 0) pa_nil)) (blkOk_by (N := n_free_ones) (sc := defScope s_free_ones) (by decide +kernel)) (fun _ _ _ _ _ => (pg_tupK (K := K) (n := 2) (by rfl) (pgs_cons (pg_name (i := 1) sc_free_ones.nd rfl (.inl rfl)) (pgs_cons (pg_name (i := 2) sc_free_ones.nd rfl (.inl rfl)) pgs_nil)))) (fun _ _ _ _ _ => pts_one (pt_val (pe_callP c_is_free_of (hr.mono (by decide)) (by rfl) (pa_cons (pv 2) pa_nil)))) (fun _ _ _ _ _ => (pv 1))) pa_nil))))), ?_⟩
    refine q_dropD Tr1 (Ex.refl _) (den_call (dena_cons (den_var rfl h1) dena_nil) ⟨hh, wd, m, p, ⟨k, m1, m2⟩, rfl, rfl⟩) fun H1 e1 => ?_
    have g1 := h1.up (hide_up (S := S) e1)
    exact s_retD (Tr1.up e1) (Ex.refl _) (den_cb (dena_cons (den_lc (List.range m) (fun (i : Nat) => PyData.tuple [.int (i : Int), picD hh wd (p i)]) _ (fun i => (LP.core hh wd (p i)).isEmpty) (fun (i : Nat) => .int (i : Int)) (it_enum_val (den_var rfl g1)) (by rw [List.length_range]; omega) (fun _ _ => asg_pair) fun i hi B1 σ1 eB ⟨y, z, hy, hz, ey⟩ => by
      subst ey
      exact ⟨rfl, tst_B (den_call (dena_cons (den_var rfl hz) dena_nil) ⟨hh, wd, p i, k, rfl, rfl⟩), fun _ => den_var rfl hy⟩) dena_nil) rc_tupL) fun v5 H5 e5 hv5 => q v5 H5 (e1.trans e5) hv5
theorem ok_reached_all (T : Tx mg) (h : At K mg "reached_all" s_reached_all ["value"]) (c_need_pictures : Prom P w K mg base "need_pictures" ["value"] 5 (SpR RNeedList)) (c_least_of : Prom P w K mg base "least_of" ["start", "goal"] 3 (SpR RLeast)) :
    Prom P w K mg base "reached_all" ["value"] 6 (SpR RReached) := by
  refine prom_R h sc_reached_all (fun ds d hR => by obtain ⟨_, _, _, _, _, rfl, _⟩ := hR; rfl) fun f cdv A outer s H vs Q E S ds d hr Tr1 hv hR q => ?_
  obtain ⟨hh, wd, m, p, ⟨k, m1, m2⟩, rfl, rfl⟩ := hR
  cases hv with
  | @cons v1 _ _ _ h1 t =>
    cases t
    refine ⟨_, (pss_cons (ps_expr (pe_callP c_need_pictures (hr.mono (by decide)) (by rfl) (pa_cons (pv 0) pa_nil)))
      (pss_cons (ps_set (i := 1) sc_reached_all.nd rfl (.inl rfl) (pe_lst pa_nil))
      (pss_cons (ps_for PassesOwn.never rfl (pi_enumK (K := K) (by rfl) T.enumerate_ (pa_cons (pv 0) pa_nil)) (pg_tupK (K := K) (n := 2) (by rfl) (pgs_cons (pg_name (i := 2) sc_reached_all.nd rfl (.inl rfl)) (pgs_cons (pg_name (i := 3) sc_reached_all.nd rfl (.inr rfl)) pgs_nil))) (pss_one (ps_if (pt_val (pe_callB (k_all (K := K) rfl) (by rfl) T.all_ (by decide +kernel) (pa_cons (pe_lc (own := [("goal", 4)])  rfl sc_reached_all.nd (pi_seqK (K := K) (pv 0)) (blkOk_by (N := n_reached_all) (sc := defScope s_reached_all) (by decide +kernel)) (fun _ _ _ _ _ => (pg_name (i := 4) sc_reached_all.nd rfl (.inl rfl))) (fun _ _ _ _ _ => pts_nil) (fun _ _ _ _ _ => (pe_cmpR op_notNA (pe_callP c_least_of (hr.mono (by decide)) (by rfl) (pa_cons (pv 3) (pa_cons (pv 4) pa_nil))) pe_non (nomark _)))) pa_nil))) (pss_one (ps_expr (pe_bm PySem.F.plainAttrs_list PySem.F.slot_list_append PySem.F.type_list_append mt_append (pv 1) (pa_cons (pv 2) pa_nil)))) pss_nil)))
      (pss_one (ps_ret (pe_callTy (k_tup (K := K)) (by rfl) T.tuple_ (by decide +kernel) (pa_cons (pv 1) pa_nil))))))), ?_⟩
    refine q_dropD Tr1 (Ex.refl _) (den_call (dena_cons (den_var rfl h1) dena_nil) ⟨hh, wd, m, p, ⟨k, m1, m2⟩, rfl, rfl⟩) fun H1 e1 => ?_
    refine q_new fun L hL => ?_
    have HL : H L = none := fresh_back e1 hL
    have nL : L ∉ S := Tr1.not HL
    have T1 : Tr (L :: S) (upd H1 L (.lst [])) := ((Tr1.up e1).up (Ex.new hL)).cons upd_same
    have o1 : Ex (hide S H1) (hide (L :: S) (upd H1 L (.lst []))) := hide_open hL (Ex.new hL)
    have g1 := (h1.up (hide_up (S := S) e1)).up o1
    refine q_forD (List.range m) (fun (i : Nat) => PyData.tuple [.int (i : Int), picD hh wd (p i)]) T1 (Ex.refl _) (it_enum_val (den_var rfl g1)) fun H2 e2 => ?_
    let ok : Nat → Bool := fun i => (List.range m).all fun j => can hh wd (p i) (p j)
    refine ⟨fun i σ' H' => ∃ (y2 y3 y4 : Option V) (acc : List V), σ' = [some v1, some (.ref L), y2, y3, y4] ∧ Ex H H' ∧ Ex (hide (L :: S) H2) (hide (L :: S) H') ∧ H' L = some (.lst acc) ∧ acc.length ≤ i ∧ DnAll (hide (L :: S) H') acc (natL (((List.range m).take i).filter ok)),
      ⟨none, none, none, [], rfl, (Ex.mut e1 HL).trans e2, Ex.refl _, e2 L _ upd_same, Nat.le_refl _, .nil⟩, fun _ _ _ ⟨_, _, _, _, _, _, e, _⟩ => e.trans hide_le, ?_, ?_⟩
    · rintro i a σ' H' v H'' hg ⟨y2, y3, y4, acc, rfl, eH, eB, hacc, hlen, hd⟩ e4 hv
      have hi : i < m := by
        have := (List.getElem?_eq_some_iff.mp hg).1
        rwa [List.length_range] at this
      have htake : (List.range m).take (i + 1) = (List.range m).take i ++ [a] := by
        rw [List.take_add_one, hg]
        rfl
      have T2 : Tr (L :: S) H' := (Tr1.up eH).cons hacc
      have T4 := T2.up e4
      have g4 : Dn (hide (L :: S) H'') v1 (valD hh wd m p) := ((g1.up (hide_up e2)).up eB).up (hide_up e4)
      refine asg_pair (L :: S) H'' v T4 (hv (L :: S) T2 eB) _ fun σ2 ⟨x, y, hx, hy, ex⟩ => ?_
      subst ex
      refine s_whenD T4 (Ex.refl _) (tst_B (den_all (xs := List.range m) (b := fun j => can hh wd (p a) (p j)) (den_lcM (List.range m) (fun i => picD hh wd (p i)) _ _ (it_val (den_var rfl g4)) (by rw [List.length_range]; omega) (fun _ _ => asg_name) fun j hj B2 σ2 eB2 ⟨z, hz, ez⟩ => by
        subst ez
        refine ⟨rfl, Den.to (den_op (den_call (dena_cons (den_var rfl (hy.up eB2)) (dena_cons (den_var rfl hz) dena_nil)) ⟨hh, wd, p a, p j, k, rfl, rfl⟩) den_non rd_notN) ?_⟩
        rw [isNone_optL, can_least, Bool.not_not]))) (fun hb H5 e5 => ?_) fun hb H5 e5 => ?_
      · have e45 := e4.trans e5
        refine s_appD (T4.up e5) (Ex.refl _) rfl (e45 L _ hacc) (by omega) (den_var rfl (hx.up (hide_up e5))) fun z H6 e6 hz => ?_
        have e46 := e45.trans e6
        refine ⟨_, _, _, acc ++ [z], rfl, Ex.mut (eH.trans e46) HL, ?_, upd_same, ?_, ?_⟩
        · rw [hide_upd]
          exact eB.trans (hide_up e46)
        · rw [List.length_append, List.length_singleton]
          omega
        · rw [hide_upd, htake, List.filter_append, show List.filter ok [a] = [a] from by rw [List.filter_cons, if_pos hb]; rfl]
          unfold natL
          rw [List.map_append]
          exact DnAll.snoc (hd.up (hide_up e46)) hz
      · have e45 := e4.trans e5
        refine ⟨_, _, _, acc, rfl, eH.trans e45, eB.trans (hide_up e45), e45 L _ hacc, by omega, ?_⟩
        rw [htake, List.filter_append, show List.filter ok [a] = [] from by rw [List.filter_cons, if_neg (Bool.eq_false_iff.mp hb)]; rfl, List.append_nil]
        exact hd.up (hide_up e45)
    · rintro σ' H' ⟨y2, y3, y4, acc, rfl, eH, eB, hacc, hlen, hd⟩
      have hz : (List.range m).take (List.range m).length = List.range m := List.take_length
      rw [hz] at hd
      exact s_retD (Tr1.up eH) (Ex.refl _) (den_cb (dena_cons (den_var rfl (hide_list nL hacc hd)) dena_nil) rc_tupL) fun v5 H5 e5 hv5 => q v5 H5 (eH.trans e5) hv5
def RSame : List PyData → PyData → Prop := fun ds d => ∃ h wd s g, PicOk h wd ∧ ds = [picD h wd s, picD h wd g] ∧ d = .bool (can h wd s g && can h wd g s)
theorem ok_same_core (T : Tx mg) (h : At K mg "same_core" s_same_core ["one", "other"]) (c_need_picture : Prom P w K mg base "need_picture" ["value"] 2 (SpR RNeedPicture)) (c_need_like : Prom P w K mg base "need_like" ["value"] 1 (SpR RNeedLike)) (c_least_of : Prom P w K mg base "least_of" ["start", "goal"] 3 (SpR RLeast)) :
    Prom P w K mg base "same_core" ["one", "other"] 6 (SpR RSame) := by
  refine prom_R h sc_same_core (fun ds d hR => by obtain ⟨_, _, _, _, _, rfl, _⟩ := hR; rfl) fun f cdv A outer s H vs Q E S ds d hr Tr1 hv hR q => ?_
  obtain ⟨hh, wd, ps, pg, k, rfl, rfl⟩ := hR
  cases hv with
  | @cons v1 _ _ _ h1 t =>
   cases t with
   | @cons v2 _ _ _ h2 t =>
    cases t
    refine ⟨_, (pss_cons (ps_expr (pe_callP c_need_picture (hr.mono (by decide)) (by rfl) (pa_cons (pv 0) pa_nil)))
      (pss_cons (ps_expr (pe_callP c_need_picture (hr.mono (by decide)) (by rfl) (pa_cons (pv 1) pa_nil)))
      (pss_cons (ps_expr (pe_callP c_need_like (hr.mono (by decide)) (by rfl) (pa_cons (pe_tup (pa_cons (pv 0) (pa_cons (pv 1) pa_nil))) pa_nil)))
      (pss_one (ps_ret (pe_and (pe_cmpR op_notNA (pe_callP c_least_of (hr.mono (by decide)) (by rfl) (pa_cons (pv 0) (pa_cons (pv 1) pa_nil))) pe_non (nomark _)) (pe_one (pe_cmpR op_notNA (pe_callP c_least_of (hr.mono (by decide)) (by rfl) (pa_cons (pv 1) (pa_cons (pv 0) pa_nil))) pe_non (nomark _))))))))), ?_⟩
    refine q_dropD Tr1 (Ex.refl _) (den_call (dena_cons (den_var rfl h1) dena_nil) ⟨hh, wd, ps, k, rfl, rfl⟩) fun H1 e1 => ?_
    refine q_dropD (Tr1.up e1) (Ex.refl _) (den_call (dena_cons (den_var rfl (h2.up (hide_up e1))) dena_nil) ⟨hh, wd, pg, k, rfl, rfl⟩) fun H2 e2 => ?_
    have e12 := e1.trans e2
    refine q_dropD (Tr1.up e12) (Ex.refl _) (den_call (dena_cons (den_tup (dena_cons (den_var rfl (h1.up (hide_up e12))) (dena_cons (den_var rfl (h2.up (hide_up e12))) dena_nil)) (by show 2 ≤ 100000; decide)) dena_nil) ⟨hh, wd, 2, consP ps (consP pg fun _ => pg), k, by decide, by decide, rfl, rfl⟩) fun H3 e3 => ?_
    have e13 := e12.trans e3
    have g1 := h1.up (hide_up (S := S) e13)
    have g2 := h2.up (hide_up (S := S) e13)
    exact s_retD (Tr1.up e13) (Ex.refl _) (den_andV (Den.to (den_op (den_call (dena_cons (den_var rfl g1) (dena_cons (den_var rfl g2) dena_nil)) ⟨hh, wd, ps, pg, k, rfl, rfl⟩) den_non rd_notN) (by rw [isNone_optL, can_least, Bool.not_not])) fun _ =>
      Den.to (den_op (den_call (dena_cons (den_var rfl g2) (dena_cons (den_var rfl g1) dena_nil)) ⟨hh, wd, pg, ps, k, rfl, rfl⟩) den_non rd_notN) (by rw [isNone_optL, can_least, Bool.not_not])) fun v5 H5 e5 hv5 => q v5 H5 (e13.trans e5) hv5
end
end LPW

/-! ## LpSort -/
/-! min of a list of data; sorted of a set and of a dict of tuples of ints of unlike lengths (HandS has the set for tuples of one length alone; its road is followed here, with the kit's sort of data). -/
namespace LPW
open PySem PySem.Spec PyProof.Rows L2 Evl

section
variable {X : Cx}
theorem vals_at {xs : List V} {us : List Value} (r : Vals xs us) : ∀ {i : Nat} {u : Value}, us[i]? = some u → ∃ x, xs[i]? = some x ∧ RelV x u := by
  induction r with
  | nil => intro i u h; simp at h
  | cons h t ih =>
    intro i u hu
    cases i with
    | zero =>
      cases hu
      exact ⟨_, rfl, h⟩
    | succ i => exact ih (by simpa using hu)
/-! ### min -/
def rMinD (K : PySem.W.Frag) : List V → Hp → VK → Prop := fun vs H Q => ∃ (a : Addr) (xs : List V) (d : PyData) (ds : List PyData), vs = [V.ref a] ∧ SqL K H a xs ∧ DpAll K H xs (d :: ds) ∧ PySem.W.AlikeAll (d :: ds) ∧ PyData.depthAll (d :: ds) ≤ 8 ∧
  ∀ (i : Nat) (x : V), xs[i]? = some x → (d :: ds)[i]? = some (PySem.W.minD d ds) → Q x H
theorem cr_minD (hc : X.calm = true) (hu : X.A.units + 64 < cLine) : CallR X (.builtin "min") (rMinD X.K) := by
  intro pins s σ H vs us Q I r h
  obtain ⟨a, xs, d, ds, rfl, hs, hd, ha, hdep, q⟩ := h
  rw [Vals.ref1 r]
  obtain ⟨its, rv, pl, hz⟩ := I.list hs
  obtain ⟨as, hr⟩ := Dp.readsAll I (d :: ds) xs its hd rv
  have hr' : ReadsAll s.heap its.toArray.toList (d :: ds) as := by simpa using hr
  have hn : its.toArray.size = ds.length + 1 := by
    have := PySem.W.readsAll_len hr'
    simpa using this
  refine call_min_walkH (PySem.W.iter_listW (A := X.A.in1) (I.ok.hd hc) pl.isList fun s₂ e W st hfp hw hk => ?_)
  refine ⟨_, _, _, _, _, _, _, s.heap, _, rfl, W, st, hfp, by omega, hw, hk, PySem.W.cmpIn_lt (A := X.A.in1) hr' ha (by show X.A.units + 1 + _ < _; omega), fun v s' hP m => ?_⟩
  obtain ⟨h', tk, rfl, hk'⟩ := PySem.W.moved_old e rfl m
  have e1 : its.toArray.size - 1 = ds.length := by omega
  have e2 := (PySem.W.argBest_fold PySem.W.dataLt PyData.none d ds ds.length (Nat.le_refl _)).2
  have e0 := (PySem.W.argBest_fold PySem.W.dataLt PyData.none d ds ds.length (Nat.le_refl _)).1
  rw [List.take_length] at e2
  rw [e1] at hP
  have hP : its.toArray[argBest (fun i j => PySem.W.dataLt ((d :: ds).getD i .none) ((d :: ds).getD j .none)) ds.length]? = some v := hP
  generalize argBest (fun i j => PySem.W.dataLt ((d :: ds).getD i .none) ((d :: ds).getD j .none)) ds.length = i at hP e2 e0
  obtain ⟨x, hx, rx⟩ := vals_at rv (i := i) (u := v) (by simpa using hP)
  refine ⟨x, H, I.kept hk', rx, q i x hx ?_⟩
  have hi : i < (d :: ds).length := by rw [List.length_cons]; omega
  rw [List.getD_eq_getElem?_getD, List.getElem?_eq_getElem hi] at e2
  rw [List.getElem?_eq_getElem hi]
  exact congrArg some e2
theorem den_min {te : TE} {σ : L2.St} {B : Hp} {K : PySem.W.Frag} {d : PyData} {ds : List PyData} (h : Den te σ B (.list (d :: ds))) (ha : PySem.W.AlikeAll (d :: ds)) (hdep : PyData.depthAll (d :: ds) ≤ 8) :
    Den (tCB (rMinD K) (tCons te tNil)) σ B (PySem.W.minD d ds) := fun S H1 T e Q q =>
  h S H1 T e _ fun v H2 e2 hv => by
    cases hv with
    | @lst a xs _ hx hd =>
      refine ⟨a, xs, d, ds, rfl, .inl (.inl (hide_le a _ hx)), (hd.up hide_le).dp, ha, hdep, fun i x h1 h2 => ?_⟩
      obtain ⟨y, h3, h4⟩ := hd.get h2
      rw [h1] at h3
      cases h3
      exact q x H2 e2 h4

/-! ### sorting tuples of ints of any lengths -/
def encT (q : Addr × List Int) : PyData := .tuple (q.2.map .int)
theorem reads_ints {h : Heap} : ∀ {us : List Value} {ns : List Int}, IntsAre us ns → ReadsAll h us (ns.map .int) []
  | _, _, .nil => .nil
  | _, _, .cons n t r => .cons (as := []) (bs := []) (.int n t) (reads_ints r)
theorem reads_tup {h : Heap} {v : Value} {ns : List Int} (x : TS.TupInts h v ns) : Reads h v (.tuple (ns.map .int)) [] := by
  obtain ⟨a, xs, rfl, ⟨o, ho, hc, n, hd⟩, hi⟩ := x
  exact .tuple ho hc hd (reads_ints hi)
theorem dataLe_tups : PySem.W.dataLe false encT = fun p q => decide (p.2 ≤ q.2) := by
  funext p q
  show (!PySem.W.dataLt (.tuple (q.2.map .int)) (.tuple (p.2.map .int))) = _
  rw [PySem.W.dataLt_tuple]
  show (!PySem.W.rowLt (q.2.map .int) (p.2.map .int)) = _
  rw [PySem.W.dataLt_ints]
  by_cases h : q.2 < p.2
  · have h' : ¬ p.2 ≤ q.2 := fun r => List.not_lt.mpr r h
    simp [h, h']
  · have h' : p.2 ≤ q.2 := List.not_lt.mp h
    simp [h, h']
theorem each_refs : ∀ L : List (Addr × List Int), PySem.W.EachIs (fun v q => v = Value.ref q.1) (L.map fun q => Value.ref q.1) L
  | [] => .nil
  | _ :: L => .cons rfl (each_refs L)
theorem refs_each : ∀ {us : List Value} {L : List (Addr × List Int)}, PySem.W.EachIs (fun v q => v = Value.ref q.1) us L → us = L.map fun q => Value.ref q.1
  | _, _, .nil => rfl
  | _, _, .cons h t => by rw [h, refs_each t]; rfl
theorem each_of {R : Value → (Addr × List Int) → Prop} : ∀ {L : List (Addr × List Int)}, (∀ q ∈ L, R (.ref q.1) q) → PySem.W.EachIs R (L.map fun q => Value.ref q.1) L
  | [], _ => .nil
  | q :: L, h => .cons (h q List.mem_cons_self) (each_of fun r hr => h r (List.mem_cons_of_mem _ hr))
/-- the sort of a fresh list of tuples -/
theorem sort_tups {prog : Program} {w : World} {A : Around} {E : Value → Shared → Prop} {s : Shared} {a : Addr} {n : Nat} {L : List (Addr × List Int)} {Q : Value → Shared → Prop}
    (ho : s.heap.get? a = some (seqObj "list" (L.map fun q => Value.ref q.1).toArray n)) (ht : ∀ q ∈ L, TS.TupInts s.heap (.ref q.1) q.2) (hne : ∀ q ∈ L, q.2 ≠ []) (hL : L.length < 64) (hu : A.units + 8 < cLine)
    (h : ∀ L' : List (Addr × List Int), L'.Perm L → L'.Pairwise (fun q r => q.2 ≤ r.2) → Q .none { s with heap := sortedHeap s.heap a (L.map fun q => Value.ref q.1) (L'.map fun q => Value.ref q.1).toArray }) :
    wpAny (model prog w) A (call (.builtin "list.sort") [.ref a]) Q E s := by
  refine PySem.W.list_sort_data (enc := encT) (bs := L) ho (each_refs L) (each_of fun q hq => ⟨[], reads_tup (ht q hq), by simp⟩) (PySem.W.AllAlike.of fun b b' => by
    show PySem.W.alike (.tuple _) (.tuple _) = true
    rw [PySem.W.alike]
    exact PySem.W.alike_ints _ _) (.inl fun d hd => ?_) (by rw [sizeLine_eq]; omega) (fun b hb => ?_) fun out h1 h2 => ?_
  · obtain ⟨q, hq, rfl⟩ := List.mem_map.mp hd
    cases e : q.2 with
    | nil => exact absurd e (hne q hq)
    | cons x r => exact ⟨.int x, r.map .int, by unfold encT; rw [e]; rfl⟩
  · have e : (encT b).depth = 1 := by
      unfold encT
      rw [PyData.depth, PySem.W.depth_ints]
    rw [e]
    omega
  · have e := refs_each h2
    rw [e]
    refine h _ (List.mergeSort_perm _ _) ?_
    have pw := List.pairwise_mergeSort (le := PySem.W.dataLe false encT) (by
      rw [dataLe_tups]
      intro x y z h1 h2
      exact decide_eq_true (List.le_trans (of_decide_eq_true h1) (of_decide_eq_true h2))) (by
      rw [dataLe_tups]
      intro x y
      rcases List.le_total x.2 y.2 with h | h
      · simp [h]
      · simp [h]) L
    refine pw.imp fun {x y} hxy => ?_
    rw [dataLe_tups] at hxy
    exact of_decide_eq_true hxy
theorem ord_refs {L : List (Addr × List Int)} : ∀ {vs : List Value}, (∀ v ∈ vs, ∃ q ∈ L, v = Value.ref q.1) → ∃ L1 : List (Addr × List Int), vs = L1.map (fun q => Value.ref q.1) ∧ ∀ q ∈ L1, q ∈ L
  | [], _ => ⟨[], rfl, fun q hq => nomatch hq⟩
  | v :: vs, hv => by
    obtain ⟨q, hq, e⟩ := hv v List.mem_cons_self
    obtain ⟨L1, e1, hs⟩ := ord_refs fun u hu => hv u (List.mem_cons_of_mem _ hu)
    refine ⟨q :: L1, by rw [List.map_cons, e, e1], fun r hr => ?_⟩
    rcases List.mem_cons.mp hr with z | z
    · rw [z]
      exact hq
    · exact hs r z
/-- sorted(set) -/
def rSortedST (K : PySem.W.Frag) (P : Program) (w : World) : List V → Hp → VK → Prop := fun vs H Q => ∃ (a : Addr) (L : List (Addr × List Int)), vs = [V.ref a] ∧ H a = some (SetTO P w a L) ∧ (∀ p ∈ L, SqT K H p.1 (p.2.map V.int)) ∧ (∀ p ∈ L, p.2 ≠ []) ∧
  ∀ (L' : List (Addr × List Int)) (p : Addr), (∀ q, q ∈ L' ↔ q ∈ L) → L'.Perm L → (L'.map (·.2)).Nodup → L'.length < 64 → L'.Pairwise (fun q r => q.2 ≤ r.2) → H p = none → Q (.ref p) (upd H p (.lst (L'.map fun q => V.ref q.1)))
theorem cr_sortedST (hc : X.calm = true) (hu : X.A.units + 64 < cLine) : CallR X (.builtin "sorted") (rSortedST X.K X.prog X.w) := by
  intro pins s σ H vs us Q I r h
  obtain ⟨a, L, rfl, ha, hk, hne, q⟩ := h
  have R0 : SetT0 X.prog X.w s.heap a L := (I.hok a _ ha).1
  obtain ⟨es, ep, t, R⟩ := R0.full fun p hp => I.isT (hk p hp)
  rw [Vals.ref1 r]
  obtain ⟨o, ho, hex, hd⟩ := R.ob
  have hsz := R.size
  have hfew := R.few
  refine Calls.call_function_entry kind_sorted plain_sorted entry_sorted (args_sorted1 _) ?_
  unfold Builtin.«sorted»
  refine wpAny_bind (m := checkCount "sorted" 1 1 _) (wpAny_pure ?_)
  refine wpAny_bind (collect_set (A := X.A.in1) (I.ok.hd hc) ⟨o, ho, hex.1, hd⟩ R.fits (by unfold scanBound; omega) R.tab.ris R.led fun s1 vs k1 hz g1 o1 pm => ?_)
  have hes : es.toList.map (·.2) = L.map fun q => Value.ref q.1 := by
    rw [R.rows]
    unfold rowsOf
    rw [List.map_map] <;> rfl
  rw [hes] at pm
  obtain ⟨L1, rfl, hs1⟩ := ord_refs (L := L) (vs := vs) fun v hv => by
    obtain ⟨q, hq, e⟩ := List.mem_map.mp (pm.mem_iff.mp hv)
    exact ⟨q, hq, e.symm⟩
  have one : ∀ q ∈ L, ∀ r ∈ L, q.1 = r.1 → q = r := fun q hq r hr e => by
    have a1 := R.tup q hq
    have a2 := R.tup r hr
    rw [e] at a1
    exact Prod.ext e (a1.inj a2)
  have nL : L.Nodup := nodup_of_map R.nd
  have perm : L1.Perm L := by
    have nref : (L.map fun q => Value.ref q.1).Nodup := by
      refine List.pairwise_map.mpr (List.Pairwise.imp_of_mem (fun {q r} hq hr hne e => ?_) nL)
      injection e with e
      exact hne (one q hq r hr e)
    have n1 : L1.Nodup := nodup_of_map (pm.nodup_iff.mpr nref)
    refine (List.perm_ext_iff_of_nodup n1 nL).mpr fun q => ⟨hs1 q, fun hq => ?_⟩
    obtain ⟨r, hr, e⟩ := List.mem_map.mp (pm.mem_iff.mpr (List.mem_map.mpr ⟨q, hq, rfl⟩))
    injection e with e
    rw [← one r (hs1 r hr) q hq e]
    exact hr
  have hvl : L1.length < 64 := by rw [perm.length_eq]; exact hfew
  refine wpAny_bind (wpAny_newList ?_ (by rw [List.length_map, sizeLine_eq]; omega))
  have hoL : (s1.heap.push (seqObj "list" (L1.map fun q => Value.ref q.1).toArray 0)).get? s1.heap.objs.size = some (seqObj "list" (L1.map fun q => Value.ref q.1).toArray 0) := Heap.get?_push_size _ rfl
  refine wpAny_bind (wpAny_holding (sort_tups (s := { s1 with heap := s1.heap.push (seqObj "list" (L1.map fun q => Value.ref q.1).toArray 0) }) hoL
    (fun q hq => tupInts_of (P := X.prog) (w := X.w) (isT_keep (R.tup q (hs1 q hq)) fun b u e => Heap.get?_push_of_some _ (k1 b u e))) (fun q hq => hne q (hs1 q hq)) hvl (by show X.A.units + 1 + 8 < cLine; omega) fun L' pL pw => ?_))
  obtain ⟨c, hg⟩ := sortedHeap_at (vs := L1.map fun q => Value.ref q.1) (out := (L'.map fun q => Value.ref q.1).toArray) hoL
  refine wpAny_pure ⟨_, rfl, ?_⟩
  have k : ∀ b o, s.heap.get? b = some o → (sortedHeap (s1.heap.push (seqObj "list" (L1.map fun q => Value.ref q.1).toArray 0)) s1.heap.objs.size (L1.map fun q => Value.ref q.1) (L'.map fun q => Value.ref q.1).toArray).get? b = some o := fun b u e => by
    have q := k1 b u e
    have hlt := Heap.lt_size q
    rw [sortedHeap_old (Nat.ne_of_lt hlt) (by rw [size_push']; exact Nat.lt_succ_of_lt hlt)]
    exact Heap.get?_push_of_some _ q
  have pL0 := pL.trans perm
  have hfew' : L'.length < 64 := by rw [pL0.length_eq]; exact hfew
  have hlen : (L'.map fun q => V.ref q.1).length ≤ sizeLine := by rw [List.length_map, sizeLine_eq]; omega
  have hn : H s1.heap.objs.size = none := I.hok.fresh hz
  have J : Inv X pins σ (upd H s1.heap.objs.size (.lst (L'.map fun q => V.ref q.1))) { s with heap := _, gens := s1.gens, drawn := s1.drawn, toks := s1.toks } :=
    I.call (ch := []) (Un.laid k hz hn) (I.hok.laid k hz ⟨hlen, _, c, vals_of_refs L', hg⟩) (by rw [g1]; exact I.bare) (fun _ z => nomatch z)
  refine ⟨.ref s1.heap.objs.size, _, ?_, rfl, q L' _ (fun q => pL0.mem_iff) pL0 ((pL0.map (·.2)).nodup_iff.mpr R.nd) hfew' pw hn⟩
  have e : ({ s1 with heap := sortedHeap (s1.heap.push (seqObj "list" (L1.map fun q => Value.ref q.1).toArray 0)) s1.heap.objs.size (L1.map fun q => Value.ref q.1) (L'.map fun q => Value.ref q.1).toArray } : Shared) = { s with heap := sortedHeap (s1.heap.push (seqObj "list" (L1.map fun q => Value.ref q.1).toArray 0)) s1.heap.objs.size (L1.map fun q => Value.ref q.1) (L'.map fun q => Value.ref q.1).toArray, gens := s1.gens, drawn := s1.drawn, toks := s1.toks } := by
    cases s1
    cases s
    cases o1
    rfl
  exact e ▸ J
/-! ### sorted(dict), its keys tuples of ints -/
theorem keysP1 {κ : Type} [DecidableEq κ] {kvs : List (κ × V)} {k : κ} (y : V) (h : k ∈ kvs.map (·.1)) : (putK kvs k y).map (·.1) = kvs.map (·.1) := by
  obtain ⟨kv, h1, h2⟩ := List.mem_map.mp h
  unfold putK
  rw [if_pos (List.any_eq_true.mpr ⟨kv, h1, decide_eq_true h2⟩), List.map_map]
  refine List.map_congr_left fun kv _ => ?_
  show (if kv.1 = k then (kv.1, y) else kv).1 = kv.1
  split <;> rfl
theorem keysP2 {κ : Type} [DecidableEq κ] {kvs : List (κ × V)} {k : κ} (y : V) (h : k ∉ kvs.map (·.1)) : (putK kvs k y).map (·.1) = kvs.map (·.1) ++ [k] := by
  unfold putK
  rw [if_neg fun e => by
    obtain ⟨kv, h1, h2⟩ := List.any_eq_true.mp e
    exact h (List.mem_map.mpr ⟨kv, h1, of_decide_eq_true h2⟩), List.map_append]
  rfl
theorem kt_list {H : Hp} {kvs : List (List Key × V)} {xs : List (List Key × Addr × Value)} (pr : KT H kvs xs) : ∀ {kz : List (List Int)}, kvs.map (·.1) = kz.map (fun k => k.map Sum.inl) →
    ∃ L : List (Addr × List Int), L.map (·.2) = kz ∧ L.map (·.1) = xs.map (·.2.1) ∧ ∀ q ∈ L, H q.1 = some (.tup (q.2.map V.int)) := by
  unfold KT at pr
  induction pr with
  | nil =>
    intro kz h
    cases kz with
    | nil => exact ⟨[], rfl, rfl, fun q hq => nomatch hq⟩
    | cons _ _ => cases h
  | @cons p x ps xs h t ih =>
    intro kz hk
    cases kz with
    | nil => cases hk
    | cons k kz =>
      rw [List.map_cons, List.map_cons] at hk
      injection hk with e1 e2
      obtain ⟨L, h1, h2, h3⟩ := ih e2
      refine ⟨(x.2.1, k) :: L, by rw [List.map_cons, h1], by rw [List.map_cons, List.map_cons, h2], fun q hq => ?_⟩
      rcases List.mem_cons.mp hq with rfl | hq
      · have := h.2.1
        rw [e1, List.map_map] at this
        exact this
      · exact h3 q hq
def rSortedDT : List V → Hp → VK → Prop := fun vs H Q => ∃ (a : Addr) (kvs : List (List Key × V)) (kz : List (List Int)), vs = [V.ref a] ∧ Rd H a (.dT kvs) ∧ kvs.map (·.1) = kz.map (fun k => k.map Sum.inl) ∧ kz.length < 64 ∧ (∀ k ∈ kz, k ≠ []) ∧
  ∀ (L' : List (Addr × List Int)) (p : Addr), (∀ q ∈ L', H q.1 = some (.tup (q.2.map V.int))) → (L'.map (·.2)).Perm kz → L'.Pairwise (fun q r => q.2 ≤ r.2) → H p = none → Q (.ref p) (upd H p (.lst (L'.map fun q => V.ref q.1)))
theorem cr_sortedDT (hc : X.calm = true) (hu : X.A.units + 64 < cLine) : CallR X (.builtin "sorted") rSortedDT := by
  intro pins s σ H vs us Q I r h
  obtain ⟨d, kvs, kz, rfl, hd, hkz, h64, hne, q⟩ := h
  rw [Vals.ref1 r]
  obtain ⟨z, hs, ks, pr, o, es, ep, ho, hx, hdt, he, hn⟩ := (show ObjOk X.prog X.w H s.heap d (.dT kvs) from hd.ok I.hok)
  have l1 : es.size = ks.length := size_of_entries he
  obtain ⟨L, hL1, hL2, hL3⟩ := kt_list pr hkz
  have l2 : L.length = kz.length := by rw [← hL1, List.length_map]
  have l3 : L.length = ks.length := by
    have := congrArg List.length hL2
    rwa [List.length_map, List.length_map] at this
  refine Calls.call_function_entry kind_sorted plain_sorted entry_sorted (args_sorted1 _) ?_
  unfold Builtin.«sorted»
  refine wpAny_bind (m := checkCount "sorted" 1 1 _) (wpAny_pure ?_)
  refine wpAny_bind (PySem.W.kdu_collect (A := X.A.in1) (kdl_raw hs hx hdt) (I.ok.hd hc) ho (by rw [sizeLine_eq]; omega) fun h' tk acc kp it => ?_)
  have ea : acc.toList = L.map fun q => Value.ref q.1 := by
    have hl : acc.toList.length = ks.length := by rw [Array.length_toList, it.1]; exact l1
    have e0 : (L.map fun q => Value.ref q.1) = (ks.map (·.2.1)).map Value.ref := by rw [← hL2, List.map_map]; rfl
    rw [e0]
    apply List.ext_getElem?
    intro j
    rw [List.getElem?_map, List.getElem?_map]
    cases hj : acc.toList[j]? with
    | none =>
      have h1 := List.getElem?_eq_none_iff.mp hj
      rw [List.getElem?_eq_none (by omega)]
      rfl
    | some v =>
      obtain ⟨en, hen, hv⟩ := it.2 j v (by rw [← Array.getElem?_toList]; exact hj)
      have qe := entry_at he j
      rw [hen] at qe
      cases hb : ks[j]? with
      | none =>
        rw [hb] at qe
        exact nomatch (show some en = none from qe)
      | some b =>
        rw [hb] at qe
        have e2 : en = entryOfKey (tupleKind (mixKind X.prog X.w)) b := Option.some.inj qe
        rw [hv, e2]
        rfl
  rw [ea]
  have I1 : Inv X pins σ H { s with heap := h', toks := tk } := I.kept kp
  refine wpAny_bind (wpAny_newList ?_ (by rw [List.length_map, sizeLine_eq]; omega))
  have hoL : (h'.push (seqObj "list" (L.map fun q => Value.ref q.1).toArray 0)).get? h'.objs.size = some (seqObj "list" (L.map fun q => Value.ref q.1).toArray 0) := Heap.get?_push_size _ rfl
  show wpAny _ _ _ _ _ { s with heap := h'.push (seqObj "list" (L.map fun q => Value.ref q.1).toArray 0), toks := tk }
  refine wpAny_bind (wpAny_holding (sort_tups (s := { s with heap := h'.push (seqObj "list" (L.map fun q => Value.ref q.1).toArray 0), toks := tk }) hoL
    (fun q hq => (tupI_raw I1 (.inl (.inl (hL3 q hq)))).keeps fun b o e _ => Heap.get?_push_of_some _ e) (fun q hq => hne _ (by rw [← hL1]; exact List.mem_map.mpr ⟨q, hq, rfl⟩)) (by omega) (by show X.A.units + 1 + 8 < cLine; omega) fun L' pL pw => ?_))
  obtain ⟨c, hg⟩ := sortedHeap_at (vs := L.map fun q => Value.ref q.1) (out := (L'.map fun q => Value.ref q.1).toArray) hoL
  have hlen : (L'.map fun q => V.ref q.1).length ≤ sizeLine := by rw [List.length_map, pL.length_eq, sizeLine_eq]; omega
  refine wpAny_pure ⟨_, rfl, .ref h'.objs.size, upd H h'.objs.size (.lst (L'.map fun q => V.ref q.1)), I1.laid (t' := tk) (fun b u e => ?_) (Nat.le_refl _)
    (show ObjOk X.prog X.w _ _ _ (.lst (L'.map fun q => V.ref q.1)) from ⟨hlen, _, c, vals_of_refs L', hg⟩), rfl, q L' _ (fun q hq => hL3 q (pL.mem_iff.mp hq)) (by rw [← hL1]; exact pL.map _) pw (I1.hok.fresh (Nat.le_refl _))⟩
  have hb : b < h'.objs.size := Heap.lt_size e
  rw [sortedHeap_old (Nat.ne_of_lt hb) (by rw [size_push']; exact Nat.lt_succ_of_lt hb)]
  exact Heap.get?_push_of_some _ e

/-! ### by data -/
theorem rows_one : ∀ {a b : List (List Int)}, a.Pairwise (· ≤ ·) → a.Nodup → b.Pairwise (· ≤ ·) → b.Nodup → (∀ x, x ∈ a ↔ x ∈ b) → a = b
  | [], [], _, _, _, _, _ => rfl
  | [], y :: b, _, _, _, _, h => by
    have := (h y).mpr List.mem_cons_self
    simp at this
  | x :: a, [], _, _, _, _, h => by
    have := (h x).mp List.mem_cons_self
    simp at this
  | x :: a, y :: b, ha, na, hb, nb, h => by
    obtain ⟨ha1, ha2⟩ := List.pairwise_cons.mp ha
    obtain ⟨hb1, hb2⟩ := List.pairwise_cons.mp hb
    obtain ⟨na1, na2⟩ := List.nodup_cons.mp na
    obtain ⟨nb1, nb2⟩ := List.nodup_cons.mp nb
    have exy : x = y := by
      rcases List.mem_cons.mp ((h x).mp List.mem_cons_self) with e | h1
      · exact e
      · rcases List.mem_cons.mp ((h y).mpr List.mem_cons_self) with e | h2
        · exact e.symm
        · exact List.le_antisymm (ha1 y h2) (hb1 x h1)
    subst exy
    congr 1
    refine rows_one ha2 na2 hb2 nb2 fun z => ⟨fun hz => ?_, fun hz => ?_⟩
    · rcases List.mem_cons.mp ((h z).mp (List.mem_cons_of_mem _ hz)) with e | r
      · subst e
        exact absurd hz na1
      · exact r
    · rcases List.mem_cons.mp ((h z).mpr (List.mem_cons_of_mem _ hz)) with e | r
      · subst e
        exact absurd hz nb1
      · exact r
/-- the tuples of k, once each, ascending: what sorted(set(k)) is -/
structure Asc (L k : List (List Int)) : Prop where
  le : L.Pairwise (· ≤ ·)
  nd : L.Nodup
  mem : ∀ x, x ∈ L ↔ x ∈ k
theorem Asc.one {L L' k k' : List (List Int)} (h : Asc L k) (h' : Asc L' k') (e : ∀ x, x ∈ k ↔ x ∈ k') : L = L' := rows_one h.le h.nd h'.le h'.nd fun x => by rw [h.mem, h'.mem, e]
def intsD (ns : List Int) : PyData := .tuple (ns.map .int)
end
end LPW

/-! ## LpW7 -/
/-! agree, nearest_goal, nearest_start, groups. -/
namespace LPW
open PySem PySem.Spec PyProof.Rows L2 Evl

/-! ### agree -/
def alikeAt (m : Nat) (p : Nat → LP.Pic) (i j : Nat) : Bool := (List.range m).all fun k => p k i j == p 0 i j
def agreeN (h wd m : Nat) (p : Nat → LP.Pic) : Nat := ((List.range h).map fun i => ((List.range wd).filter fun j => alikeAt m p i j).length).sum
section
variable {P : Program} {w : World} {K : PySem.W.Frag} {mg : Str → Option Value} {base : Heap}
theorem s_augD {σ : L2.St} {B H : Hp} {S : List Addr} {i : Nat} {n k : Int} {te : TE} {D : Ends} (T : Tr S H) (e : Ex B (hide S H)) (hi : σ[i]? = some (some (.int n))) (h : Den te σ B (.int k)) (q : ∀ H1, Ex H H1 → D.nx (σ.set i (some (.int (n + k)))) H1) :
    tAug i te (ipI fun i j => i + j) D σ H := ⟨.int n, hi, h S H T e _ fun v H1 e1 hv => by
  cases hv
  exact ⟨n, k, rfl, rfl, q H1 e1⟩⟩
def RAgree : List PyData → PyData → Prop := fun ds d => ∃ h wd m p, VOk h wd m ∧ ds = [valD h wd m p] ∧ d = .int (agreeN h wd m p : Nat)
theorem sgn_eq (a b : Bool) : decide (sgn a = sgn b) = (a == b) := by cases a <;> cases b <;> decide
theorem ok_agree (T : Tx mg) (h : At K mg "agree" s_agree ["value"]) (c_need_pictures : Prom P w K mg base "need_pictures" ["value"] 5 (SpR RNeedList)) :
    Prom P w K mg base "agree" ["value"] 6 (SpR RAgree) := by
  refine prom_R h sc_agree (fun ds d hR => by obtain ⟨_, _, _, _, _, rfl, _⟩ := hR; rfl) fun f cdv A outer s H vs Q E S ds d hr Tr1 hv hR q => ?_
  obtain ⟨hh, wd, m, p, ⟨k, m1, m2⟩, rfl, rfl⟩ := hR
  obtain ⟨k1, k2, k3, k4⟩ := id k
  cases hv with
  | @cons v1 _ _ _ h1 t =>
    cases t
    refine ⟨_, (pss_cons (ps_expr (pe_callP c_need_pictures (hr.mono (by decide)) (by rfl) (pa_cons (pv 0) pa_nil)))
      (pss_cons (ps_set (i := 1) sc_agree.nd rfl (.inl rfl) pe_int)
      (pss_cons (ps_for PassesOwn.never rfl (pi_enumK (K := K) (by rfl) T.enumerate_ (pa_cons (pe_ix (k_ix (K := K)) (pv 0) pe_int (fun _ _ => rfl)) pa_nil)) (pg_tupK (K := K) (n := 2) (by rfl) (pgs_cons (pg_name (i := 2) sc_agree.nd rfl (.inr rfl)) (pgs_cons (pg_name (i := 3) sc_agree.nd rfl (.inl rfl)) pgs_nil))) (pss_one (ps_for PassesOwn.never rfl (pi_enumK (K := K) (by rfl) T.enumerate_ (pa_cons (pv 3) pa_nil)) (pg_tupK (K := K) (n := 2) (by rfl) (pgs_cons (pg_name (i := 4) sc_agree.nd rfl (.inr rfl)) (pgs_cons (pg_name (i := 5) sc_agree.nd rfl (.inr rfl)) pgs_nil))) (pss_one (ps_aug (i := 1) sc_agree.nd rfl (.inl rfl) (pe_ifExp (pt_val (pe_callB (k_all (K := K) rfl) (by rfl) T.all_ (by decide +kernel) (pa_cons (pe_lc (own := [("picture", 6)])  rfl sc_agree.nd (pi_seqK (K := K) (pv 0)) (blkOk_by (N := n_agree) (sc := defScope s_agree) (by decide +kernel)) (fun _ _ _ _ _ => (pg_name (i := 6) sc_agree.nd rfl (.inl rfl))) (fun _ _ _ _ _ => pts_nil) (fun _ _ _ _ _ => (pe_cmpR (k_eq (K := K) hr.units) (pe_ix (k_ix (K := K)) (pe_ix (k_ix (K := K)) (pv 6) (pv 2) (fun _ _ => rfl)) (pv 4) (fun _ _ => rfl)) (pv 5) (nomark _)))) pa_nil))) pe_int pe_int) ip_add)))))
      (pss_one (ps_ret (pv 1)))))), ?_⟩
    refine q_dropD Tr1 (Ex.refl _) (den_call (dena_cons (den_var rfl h1) dena_nil) ⟨hh, wd, m, p, ⟨k, m1, m2⟩, rfl, rfl⟩) fun H0 e0 => ?_
    refine q_setD (Tr1.up e0) (Ex.refl _) den_int fun x H1 e01 hx => ?_
    cases hx
    have e1 := e0.trans e01
    have g1 := h1.up (hide_up (S := S) e1)
    refine q_forD (List.range hh) (fun (i : Nat) => PyData.tuple [.int (i : Int), .str (rowS wd (p 0 i))]) (Tr1.up e1) (Ex.refl _) (it_enum_pic (den_at_val (i := 0) (den_var rfl g1) den_int m1)) fun H2 e2 => ?_
    let line : Nat → Nat := fun i => ((List.range wd).filter fun j => alikeAt m p i j).length
    refine ⟨fun i σ' H' => ∃ y2 y3 y4 y5 y6 : Option V, σ' = [some v1, some (.int ((((List.range hh).take i).map line).sum : Nat)), y2, y3, y4, y5, y6] ∧ Ex H2 H', ⟨none, none, none, none, none, rfl, Ex.refl _⟩, fun _ _ _ ⟨_, _, _, _, _, _, e⟩ => hide_le.trans e, ?_, ?_⟩
    · rintro i a σ' H' v H'' hg ⟨y2, y3, y4, y5, y6, rfl, e3⟩ e4 hv
      have hai : a = i ∧ i < hh := by
        have := List.getElem?_eq_some_iff.mp hg
        obtain ⟨h1, h2⟩ := this
        rw [List.length_range] at h1
        rw [List.getElem_range] at h2
        exact ⟨h2.symm, h1⟩
      obtain ⟨rfl, hi⟩ := hai
      have e24 := e3.trans e4
      have T4 := (Tr1.up e1).up (e2.trans e24)
      have g4 := g1.up (hide_up (S := S) (e2.trans e24))
      refine asg_pair S H'' v T4 (hv S ((Tr1.up e1).up (e2.trans e3)) (hide_up e3)) _ fun σ2 ⟨x, y, hx, hy, ex⟩ => ?_
      subst ex
      refine s_forD (List.range wd) (fun (j : Nat) => PyData.tuple [.int (j : Int), .str (sgn (p 0 a j))]) T4 (Ex.refl _) (it_enum_row (den_var rfl hy)) fun H5 e5 => ?_
      refine ⟨fun j σ' H' => ∃ y4 y5 y6 : Option V, σ' = [some v1, some (.int (((((List.range hh).take a).map line).sum + (((List.range wd).take j).filter fun j => alikeAt m p a j).length : Nat) : Int)), some x, some y, y4, y5, y6] ∧ Ex H5 H', ⟨y4, y5, y6, rfl, Ex.refl _⟩, fun _ _ _ ⟨_, _, _, _, e⟩ => hide_le.trans e, ?_, ?_⟩
      · rintro j b σ' H6 v H7 hgb ⟨z4, z5, z6, rfl, e6⟩ e7 hv7
        have hbj : b = j ∧ j < wd := by
          obtain ⟨h1, h2⟩ := List.getElem?_eq_some_iff.mp hgb
          rw [List.length_range] at h1
          rw [List.getElem_range] at h2
          exact ⟨h2.symm, h1⟩
        obtain ⟨rfl, hb⟩ := hbj
        have e57 := e5.trans (e6.trans e7)
        have T7 := T4.up e57
        refine asg_pair S H7 v T7 (hv7 S (T4.up (e5.trans e6)) (hide_up e6)) _ fun σ2 ⟨z, t, hz, ht, ex⟩ => ?_
        subst ex
        have g7 := g4.up (hide_up (S := S) e57)
        have x7 := hx.up (hide_up (S := S) e57)
        refine s_augD (k := if alikeAt m p a b = true then 1 else 0) T7 (Ex.refl _) rfl (den_if (tst_B (Den.to (den_all (xs := List.range m) (b := fun k => p k a b == p 0 a b) (den_lcM (List.range m) (fun i => picD hh wd (p i)) _ _ (it_val (den_var rfl g7)) (by rw [List.length_range]; omega) (fun _ _ => asg_name) fun k0 hk B2 σ2 eB2 ⟨u, hu, eu⟩ => by
          subst eu
          refine ⟨rfl, Den.to (den_op (den_sign (den_row (den_var rfl hu) (den_var rfl (x7.up eB2)) hi) (den_var rfl (hz.up eB2)) k4 hb) (den_var rfl (ht.up eB2)) rd_eqS) ?_⟩
          rw [sgn_eq])) (show _ = PyData.bool (alikeAt m p a b) from rfl))) (fun hb => by rw [if_pos hb]; exact den_int) fun hb => by rw [if_neg (Bool.eq_false_iff.mp hb)]; exact den_int) fun H8 e8 => ?_
        refine ⟨some z, some t, z6, ?_, (e6.trans e7).trans e8⟩
        have htake : (List.range wd).take (b + 1) = (List.range wd).take b ++ [b] := by
          rw [List.take_add_one, hgb]
          rfl
        rw [htake, List.filter_append, List.length_append, List.filter_cons, List.filter_nil]
        show [some v1, some (V.int _), some x, some y, some z, some t, z6] = _
        congr 3
        by_cases hc : alikeAt m p a b = true
        · rw [if_pos hc, if_pos hc]
          show V.int _ = V.int _
          congr 1
        · rw [if_neg hc, if_neg hc]
          show V.int _ = V.int _
          congr 1
      · rintro σ' H6 ⟨z4, z5, z6, rfl, e6⟩
        refine ⟨some x, some y, z4, z5, z6, ?_, (e24.trans e5).trans e6⟩
        have htake : (List.range hh).take (a + 1) = (List.range hh).take a ++ [a] := by
          rw [List.take_add_one, hg]
          rfl
        have hw : (List.range wd).take (List.range wd).length = List.range wd := List.take_length
        rw [htake, hw, List.map_append, List.sum_append]
        show _ = [some v1, some (V.int ((_ + (line a + 0) : Nat) : Int)), some x, some y, z4, z5, z6]
        rw [Nat.add_zero]
    · rintro σ' H' ⟨y2, y3, y4, y5, y6, rfl, e3⟩
      refine ⟨_, rfl, q _ H' ((e1.trans e2).trans e3) ?_⟩
      rw [List.take_length]
      exact .int _

/-! ### nearest -/
def waysD (m : Nat) (f : Nat → Option Nat) : List PyData := ((List.range m).filter fun i => (f i).isSome).map fun i => .tuple [optN (f i), .int (i : Int)]
def nearD (ws : List PyData) : PyData := match ws with
  | [] => .none
  | x :: xs => PySem.W.minD x xs
theorem ways_alike (m : Nat) (f : Nat → Option Nat) : PySem.W.AlikeAll (waysD m f) := by
  refine ⟨fun x hx y hy => ?_, fun x hx => ?_⟩
  · obtain ⟨i, hi, rfl⟩ := List.mem_map.mp hx
    obtain ⟨j, hj, rfl⟩ := List.mem_map.mp hy
    have hi := (List.mem_filter.mp hi).2
    have hj := (List.mem_filter.mp hj).2
    obtain ⟨a, ea⟩ := Option.isSome_iff_exists.mp hi
    obtain ⟨b, eb⟩ := Option.isSome_iff_exists.mp hj
    rw [ea, eb]
    simp [optN, PySem.W.alike, PySem.W.alikeAll]
  · obtain ⟨i, hi, rfl⟩ := List.mem_map.mp hx
    simp
theorem ways_ok (m : Nat) (f : Nat → Option Nat) : ∀ x ∈ waysD m f, Ok 1 x := fun x hx => by
  obtain ⟨i, _, rfl⟩ := List.mem_map.mp hx
  refine .tuple fun y hy => ?_
  rcases List.mem_cons.mp hy with rfl | hy
  · cases f i with
    | none => exact .none
    | some n => exact .int
  · rcases List.mem_cons.mp hy with rfl | hy
    · exact .int
    · cases hy
theorem depth_le {n : Nat} : ∀ {ds : List PyData}, (∀ x ∈ ds, Ok n x) → PyData.depthAll ds ≤ n
  | [], _ => by
    rw [PyData.depthAll]
    exact Nat.zero_le _
  | d :: ds, h => by
    rw [PyData.depthAll]
    exact Nat.max_le.mpr ⟨(h d List.mem_cons_self).2, depth_le fun x hx => h x (List.mem_cons_of_mem _ hx)⟩
theorem den_near {te : TE} {σ : L2.St} {B : Hp} {m : Nat} {f : Nat → Option Nat} (h : Den te σ B (.list (waysD m f))) (hne : waysD m f ≠ []) : Den (tCB (rMinD K) (tCons te tNil)) σ B (nearD (waysD m f)) := by
  have h1 := ways_alike m f
  have h2 := ways_ok m f
  generalize waysD m f = ws at h hne h1 h2
  cases ws with
  | nil => exact absurd rfl hne
  | cons x xs => exact den_min h h1 (Nat.le_trans (depth_le h2) (by decide))
theorem filt_ways (m : Nat) (f : Nat → Option Nat) : ((List.range m).filter fun i => !isNone (optN (f i))).map (fun i => PyData.tuple [optN (f i), .int (i : Int)]) = waysD m f := by
  unfold waysD
  congr 1
  refine List.filter_congr fun i _ => ?_
  rw [isNone_optN, Bool.not_not]
def RNearGoal : List PyData → PyData → Prop := fun ds d => ∃ h wd m p s, VOk h wd m ∧ ds = [picD h wd s, valD h wd m p] ∧ d = nearD (waysD m fun i => LP.few h wd s (p i))
def RNearStart : List PyData → PyData → Prop := fun ds d => ∃ h wd m p s, VOk h wd m ∧ ds = [valD h wd m p, picD h wd s] ∧ d = nearD (waysD m fun i => LP.few h wd (p i) s)
theorem ok_nearest_goal (T : Tx mg) (h : At K mg "nearest_goal" s_nearest_goal ["start", "value"]) (c_need_picture : Prom P w K mg base "need_picture" ["value"] 2 (SpR RNeedPicture)) (c_need_list : Prom P w K mg base "need_list" ["value"] 4 (SpR RNeedList))
    (c_need_like : Prom P w K mg base "need_like" ["value"] 1 (SpR RNeedLike)) (c_few : Prom P w K mg base "few" ["start", "goal"] 4 (SpR RFew)) : Prom P w K mg base "nearest_goal" ["start", "value"] 6 (SpR RNearGoal) := by
  refine prom_R h sc_nearest_goal (fun ds d hR => by obtain ⟨_, _, _, _, _, _, rfl, _⟩ := hR; rfl) fun f cdv A outer s H vs Q E S ds d hr Tr1 hv hR q => ?_
  obtain ⟨hh, wd, m, p, ps, ⟨k, m1, m2⟩, rfl, rfl⟩ := hR
  cases hv with
  | @cons v1 _ _ _ h1 t =>
   cases t with
   | @cons v2 _ _ _ h2 t =>
    cases t
    refine ⟨_, (pss_cons (ps_expr (pe_callP c_need_picture (hr.mono (by decide)) (by rfl) (pa_cons (pv 0) pa_nil)))
      (pss_cons (ps_expr (pe_callP c_need_list (hr.mono (by decide)) (by rfl) (pa_cons (pv 1) pa_nil)))
      (pss_cons (ps_expr (pe_callP c_need_like (hr.mono (by decide)) (by rfl) (pa_cons (pe_tup (pa_cons (pv 0) (pa_starK (K := K) (pv 1) pa_nil))) pa_nil)))
      (pss_cons (ps_setLc (i := 2) (own := [("at", 4), ("goal", 5)])  rfl sc_nearest_goal.nd rfl rfl (sw_true rfl rfl rfl (by decide +kernel)) (pi_enumK (K := K) (by rfl) T.enumerate_ (pa_cons (pv 1) pa_nil)) (blkOk_by (N := n_nearest_goal) (sc := defScope s_nearest_goal) (by decide +kernel)) (fun _ _ _ _ _ => (pg_tupK (K := K) (n := 2) (by rfl) (pgs_cons (pg_name (i := 4) sc_nearest_goal.nd rfl (.inl rfl)) (pgs_cons (pg_name (i := 5) sc_nearest_goal.nd rfl (.inl rfl)) pgs_nil)))) (fun _ _ _ _ _ => pts_nil) (fun _ _ _ _ _ => (pe_tup (pa_cons (pe_callP c_few (hr.mono (by decide)) (by rfl) (pa_cons (pv 0) (pa_cons (pv 5) pa_nil))) (pa_cons (pv 4) pa_nil)))))
      (pss_cons (ps_setLc (i := 3) (own := [("pair", 6)])  rfl sc_nearest_goal.nd rfl rfl (sw_true rfl rfl rfl (by decide +kernel)) (pi_seqK (K := K) (pv 2)) (blkOk_by (N := n_nearest_goal) (sc := defScope s_nearest_goal) (by decide +kernel)) (fun _ _ _ _ _ => (pg_name (i := 6) sc_nearest_goal.nd rfl (.inl rfl))) (fun _ _ _ _ _ => pts_one (pt_cmpR op_notNA (pe_ix (k_ix (K := K)) (pv 6) pe_int (fun _ _ => rfl)) pe_non (nomark _))) (fun _ _ _ _ _ => (pv 6)))
      (pss_one (ps_ret (pe_ifExp (pt_cmpR (k_ne (K := K) hr.units) (pv 3) (pe_lst pa_nil) (nomark _)) (pe_callB (cr_minD rfl hr.units) (by rfl) T.min_ (by decide +kernel) (pa_cons (pv 3) pa_nil)) pe_non)))))))), ?_⟩
    refine q_dropD Tr1 (Ex.refl _) (den_call (dena_cons (den_var rfl h1) dena_nil) ⟨hh, wd, ps, k, rfl, rfl⟩) fun H1 e1 => ?_
    refine q_dropD (Tr1.up e1) (Ex.refl _) (den_call (dena_cons (den_var rfl (h2.up (hide_up e1))) dena_nil) ⟨hh, wd, m, p, ⟨k, m1, m2⟩, rfl, rfl⟩) fun H2 e2 => ?_
    have e12 := e1.trans e2
    refine q_dropD (Tr1.up e12) (Ex.refl _) (den_call (dena_cons (Den.to (den_tup (dena_cons (den_var rfl (h1.up (hide_up e12))) (dena_star (den_var rfl (h2.up (hide_up e12))) dena_nil)) (by simp; omega)) (valD_cons hh wd m ps p)) dena_nil) ⟨hh, wd, m + 1, consP ps p, k, by omega, by omega, rfl, rfl⟩) fun H3 e3 => ?_
    have e13 := e12.trans e3
    have g1 := h1.up (hide_up (S := S) e13)
    have g2 := h2.up (hide_up (S := S) e13)
    let ff : Nat → Option Nat := fun i => LP.few hh wd ps (p i)
    refine q_setD (Tr1.up e13) (Ex.refl _) (den_lcM (List.range m) (fun (i : Nat) => PyData.tuple [.int (i : Int), picD hh wd (p i)]) _ (fun i => .tuple [optN (ff i), .int (i : Int)]) (it_enum_val (den_var rfl g2)) (by rw [List.length_range]; omega) (fun _ _ => asg_pair) fun i hi B1 σ1 eB ⟨y, z, hy, hz, ey⟩ => by
      subst ey
      exact ⟨rfl, den_tup (dena_cons (den_call (dena_cons (den_var rfl (g1.up eB)) (dena_cons (den_var rfl hz) dena_nil)) ⟨hh, wd, ps, p i, k, rfl, rfl⟩) (dena_cons (den_var rfl hy) dena_nil)) (by show 2 ≤ 100000; decide)⟩) fun x H4 e4 hx => ?_
    have e14 := e13.trans e4
    refine q_setD (Tr1.up e14) (Ex.refl _) (Den.to (den_lc (List.range m) (fun i => PyData.tuple [optN (ff i), .int (i : Int)]) _ (fun i => !isNone (optN (ff i))) (fun i => PyData.tuple [optN (ff i), .int (i : Int)]) (it_list (den_var rfl hx)) (by rw [List.length_range]; omega) (fun _ _ => asg_name) fun i hi B1 σ1 eB ⟨y, hy, ey⟩ => by
      subst ey
      exact ⟨rfl, tst_test (den_op (den_op (den_var rfl hy) den_int (rd_ixT (j := 0) rfl)) den_non rd_notN), fun _ => den_var rfl hy⟩) (congrArg PyData.list (filt_ways m ff))) fun y H5 e5 hy => ?_
    refine s_retD (Tr1.up (e14.trans e5)) (Ex.refl _) (den_if (tst_test (den_op (den_var rfl hy) (den_lst dena_nil (by show 0 ≤ 100000; decide)) (rd_neL (Ok.list (ways_ok m ff)) (by decide)))) (fun hb => den_near (den_var rfl hy) fun z => by rw [z] at hb; cases hb) fun hb => Den.to den_non ?_) fun v5 H6 e6 hv5 => q v5 H6 ((e14.trans e5).trans e6) hv5
    have hw : waysD m ff = [] := by
      cases hc : waysD m ff with
      | nil => rfl
      | cons _ _ => rw [hc] at hb; cases hb
    show PyData.none = nearD (waysD m ff)
    rw [hw]
    rfl
theorem ok_nearest_start (T : Tx mg) (h : At K mg "nearest_start" s_nearest_start ["value", "goal"]) (c_need_picture : Prom P w K mg base "need_picture" ["value"] 2 (SpR RNeedPicture)) (c_need_list : Prom P w K mg base "need_list" ["value"] 4 (SpR RNeedList))
    (c_need_like : Prom P w K mg base "need_like" ["value"] 1 (SpR RNeedLike)) (c_few : Prom P w K mg base "few" ["start", "goal"] 4 (SpR RFew)) : Prom P w K mg base "nearest_start" ["value", "goal"] 6 (SpR RNearStart) := by
  refine prom_R h sc_nearest_start (fun ds d hR => by obtain ⟨_, _, _, _, _, _, rfl, _⟩ := hR; rfl) fun f cdv A outer s H vs Q E S ds d hr Tr1 hv hR q => ?_
  obtain ⟨hh, wd, m, p, ps, ⟨k, m1, m2⟩, rfl, rfl⟩ := hR
  cases hv with
  | @cons v1 _ _ _ h1 t =>
   cases t with
   | @cons v2 _ _ _ h2 t =>
    cases t
    refine ⟨_, (pss_cons (ps_expr (pe_callP c_need_list (hr.mono (by decide)) (by rfl) (pa_cons (pv 0) pa_nil)))
      (pss_cons (ps_expr (pe_callP c_need_picture (hr.mono (by decide)) (by rfl) (pa_cons (pv 1) pa_nil)))
      (pss_cons (ps_expr (pe_callP c_need_like (hr.mono (by decide)) (by rfl) (pa_cons (pe_tup (pa_cons (pv 1) (pa_starK (K := K) (pv 0) pa_nil))) pa_nil)))
      (pss_cons (ps_setLc (i := 2) (own := [("at", 4), ("start", 5)])  rfl sc_nearest_start.nd rfl rfl (sw_true rfl rfl rfl (by decide +kernel)) (pi_enumK (K := K) (by rfl) T.enumerate_ (pa_cons (pv 0) pa_nil)) (blkOk_by (N := n_nearest_start) (sc := defScope s_nearest_start) (by decide +kernel)) (fun _ _ _ _ _ => (pg_tupK (K := K) (n := 2) (by rfl) (pgs_cons (pg_name (i := 4) sc_nearest_start.nd rfl (.inl rfl)) (pgs_cons (pg_name (i := 5) sc_nearest_start.nd rfl (.inl rfl)) pgs_nil)))) (fun _ _ _ _ _ => pts_nil) (fun _ _ _ _ _ => (pe_tup (pa_cons (pe_callP c_few (hr.mono (by decide)) (by rfl) (pa_cons (pv 5) (pa_cons (pv 1) pa_nil))) (pa_cons (pv 4) pa_nil)))))
      (pss_cons (ps_setLc (i := 3) (own := [("pair", 6)])  rfl sc_nearest_start.nd rfl rfl (sw_true rfl rfl rfl (by decide +kernel)) (pi_seqK (K := K) (pv 2)) (blkOk_by (N := n_nearest_start) (sc := defScope s_nearest_start) (by decide +kernel)) (fun _ _ _ _ _ => (pg_name (i := 6) sc_nearest_start.nd rfl (.inl rfl))) (fun _ _ _ _ _ => pts_one (pt_cmpR op_notNA (pe_ix (k_ix (K := K)) (pv 6) pe_int (fun _ _ => rfl)) pe_non (nomark _))) (fun _ _ _ _ _ => (pv 6)))
      (pss_one (ps_ret (pe_ifExp (pt_cmpR (k_ne (K := K) hr.units) (pv 3) (pe_lst pa_nil) (nomark _)) (pe_callB (cr_minD rfl hr.units) (by rfl) T.min_ (by decide +kernel) (pa_cons (pv 3) pa_nil)) pe_non)))))))), ?_⟩
    refine q_dropD Tr1 (Ex.refl _) (den_call (dena_cons (den_var rfl h1) dena_nil) ⟨hh, wd, m, p, ⟨k, m1, m2⟩, rfl, rfl⟩) fun H1 e1 => ?_
    refine q_dropD (Tr1.up e1) (Ex.refl _) (den_call (dena_cons (den_var rfl (h2.up (hide_up e1))) dena_nil) ⟨hh, wd, ps, k, rfl, rfl⟩) fun H2 e2 => ?_
    have e12 := e1.trans e2
    refine q_dropD (Tr1.up e12) (Ex.refl _) (den_call (dena_cons (Den.to (den_tup (dena_cons (den_var rfl (h2.up (hide_up e12))) (dena_star (den_var rfl (h1.up (hide_up e12))) dena_nil)) (by simp; omega)) (valD_cons hh wd m ps p)) dena_nil) ⟨hh, wd, m + 1, consP ps p, k, by omega, by omega, rfl, rfl⟩) fun H3 e3 => ?_
    have e13 := e12.trans e3
    have g1 := h1.up (hide_up (S := S) e13)
    have g2 := h2.up (hide_up (S := S) e13)
    let ff : Nat → Option Nat := fun i => LP.few hh wd (p i) ps
    refine q_setD (Tr1.up e13) (Ex.refl _) (den_lcM (List.range m) (fun (i : Nat) => PyData.tuple [.int (i : Int), picD hh wd (p i)]) _ (fun i => .tuple [optN (ff i), .int (i : Int)]) (it_enum_val (den_var rfl g1)) (by rw [List.length_range]; omega) (fun _ _ => asg_pair) fun i hi B1 σ1 eB ⟨y, z, hy, hz, ey⟩ => by
      subst ey
      exact ⟨rfl, den_tup (dena_cons (den_call (dena_cons (den_var rfl hz) (dena_cons (den_var rfl (g2.up eB)) dena_nil)) ⟨hh, wd, p i, ps, k, rfl, rfl⟩) (dena_cons (den_var rfl hy) dena_nil)) (by show 2 ≤ 100000; decide)⟩) fun x H4 e4 hx => ?_
    have e14 := e13.trans e4
    refine q_setD (Tr1.up e14) (Ex.refl _) (Den.to (den_lc (List.range m) (fun i => PyData.tuple [optN (ff i), .int (i : Int)]) _ (fun i => !isNone (optN (ff i))) (fun i => PyData.tuple [optN (ff i), .int (i : Int)]) (it_list (den_var rfl hx)) (by rw [List.length_range]; omega) (fun _ _ => asg_name) fun i hi B1 σ1 eB ⟨y, hy, ey⟩ => by
      subst ey
      exact ⟨rfl, tst_test (den_op (den_op (den_var rfl hy) den_int (rd_ixT (j := 0) rfl)) den_non rd_notN), fun _ => den_var rfl hy⟩) (congrArg PyData.list (filt_ways m ff))) fun y H5 e5 hy => ?_
    refine s_retD (Tr1.up (e14.trans e5)) (Ex.refl _) (den_if (tst_test (den_op (den_var rfl hy) (den_lst dena_nil (by show 0 ≤ 100000; decide)) (rd_neL (Ok.list (ways_ok m ff)) (by decide)))) (fun hb => den_near (den_var rfl hy) fun z => by rw [z] at hb; cases hb) fun hb => Den.to den_non ?_) fun v5 H6 e6 hv5 => q v5 H6 ((e14.trans e5).trans e6) hv5
    have hw : waysD m ff = [] := by
      cases hc : waysD m ff with
      | nil => rfl
      | cons _ _ => rw [hc] at hb; cases hb
    show PyData.none = nearD (waysD m ff)
    rw [hw]
    rfl
end
end LPW

/-! ## LpW8 -/
/-! groups. -/
namespace LPW
open PySem PySem.Spec PyProof.Rows L2 Evl

theorem asc_put {L k : List (List Int)} (h : Asc L k) (x : List Int) : ∃ L', Asc L' (x :: k) := by
  by_cases hx : x ∈ L
  · exact ⟨L, h.le, h.nd, fun y => by
      rw [h.mem, List.mem_cons]
      constructor
      · exact .inr
      · rintro (rfl | e)
        · exact (h.mem _).mp hx
        · exact e⟩
  · have pm := List.mergeSort_perm (x :: L) (fun a b => decide (a ≤ b))
    refine ⟨(x :: L).mergeSort (fun a b => decide (a ≤ b)), ?_, pm.nodup_iff.mpr (List.nodup_cons.mpr ⟨hx, h.nd⟩), fun y => ?_⟩
    · refine (List.pairwise_mergeSort (le := fun a b : List Int => decide (a ≤ b)) (fun x y z h1 h2 => decide_eq_true (List.le_trans (of_decide_eq_true h1) (of_decide_eq_true h2))) (fun x y => ?_) (x :: L)).imp fun {a b} h => of_decide_eq_true h
      rcases List.le_total x y with h | h
      · simp [h]
      · simp [h]
    · rw [pm.mem_iff, List.mem_cons, List.mem_cons, h.mem]
theorem asc_has : ∀ k : List (List Int), ∃ L, Asc L k
  | [] => ⟨[], .nil, .nil, fun _ => Iff.rfl⟩
  | x :: k => by
    obtain ⟨L, h⟩ := asc_has k
    exact asc_put h x

/-! ### a dict of tuples of ints under construction -/
def TKs (H : Hp) (M : Addr) (n : Nat) (p : List Int → Prop) : Prop := ∃ (kvs : List (List Key × V)) (kz : List (List Int)), H M = some (.dT kvs) ∧ kvs.map (·.1) = kz.map (fun k => k.map Sum.inl) ∧ kz.length ≤ n ∧ kz.Nodup ∧ ∀ k, k ∈ kz ↔ p k
theorem TKs.up {H H' : Hp} {M : Addr} {n : Nat} {p : List Int → Prop} (h : TKs H M n p) (e : Ex H H') : TKs H' M n p := by
  obtain ⟨kvs, kz, h1, h2⟩ := h
  exact ⟨kvs, kz, e M _ h1, h2⟩
theorem TKs.to {H : Hp} {M : Addr} {n : Nat} {p p' : List Int → Prop} (h : TKs H M n p) (e : ∀ l, p l ↔ p' l) : TKs H M n p' := by
  obtain ⟨kvs, kz, h1, h2, h3, nd, h4⟩ := h
  exact ⟨kvs, kz, h1, h2, h3, nd, fun l => (h4 l).trans (e l)⟩
theorem inl_inj : ∀ {a b : List Int}, a.map (Sum.inl (β := Str)) = b.map Sum.inl → a = b
  | [], [], _ => rfl
  | [], _ :: _, h => by cases h
  | _ :: _, [], h => by cases h
  | x :: a, y :: b, h => by
    rw [List.map_cons, List.map_cons] at h
    injection h with h1 h2
    rw [Sum.inl.inj h1, inl_inj h2]
theorem TKs.put {H : Hp} {M : Addr} {n : Nat} {p : List Int → Prop} (h : TKs H M n p) (k : List Int) : ∃ kvs : List (List Key × V), H M = some (.dT kvs) ∧ kvs.length ≤ n ∧ ∀ y, TKs (upd H M (.dT (putK kvs (k.map Sum.inl) y))) M (n + 1) fun l => p l ∨ l = k := by
  obtain ⟨kvs, kz, h1, h2, h3, nd, h4⟩ := h
  have hlen : kvs.length = kz.length := by
    have := congrArg List.length h2
    rwa [List.length_map, List.length_map] at this
  have hmem : k.map Sum.inl ∈ kz.map (fun k => k.map (Sum.inl (β := Str))) ↔ k ∈ kz := by
    rw [List.mem_map]
    constructor
    · rintro ⟨m, hm, e⟩
      rw [← inl_inj e]
      exact hm
    · intro hm
      exact ⟨k, hm, rfl⟩
  refine ⟨kvs, h1, by omega, fun y => ?_⟩
  by_cases e : k ∈ kz
  · refine ⟨_, kz, upd_same, ?_, by omega, nd, fun l => ?_⟩
    · rw [keysP1 _ (by rw [h2]; exact hmem.mpr e), h2]
    · rw [h4 l]
      constructor
      · exact .inl
      · rintro (a | rfl)
        · exact a
        · exact (h4 _).mp e
  · refine ⟨_, kz ++ [k], upd_same, ?_, by rw [List.length_append, List.length_singleton]; omega, ?_, fun l => ?_⟩
    · rw [keysP2 _ (by rw [h2]; exact fun z => e (hmem.mp z)), h2, List.map_append]
      rfl
    · rw [List.nodup_append]
      refine ⟨nd, by simp, fun a ha b hb => ?_⟩
      rw [List.mem_singleton.mp hb]
      intro z
      rw [z] at ha
      exact e ha
    · rw [List.mem_append, h4 l, List.mem_singleton]
section
variable {σ : L2.St} {B H : Hp} {S : List Addr} {te tk : TE} {tz : TS} {D : Ends} {d : PyData}
theorem q_newT {i : Nat} (k : ∀ L, H L = none → tz D (σ.set i (some (.ref L))) (upd H L (.dT []))) : tSeq (tAsg tDNewT (gName i)) tz D σ H := fun p hp => k p hp
theorem s_putT {i : Nat} {M : Addr} {n : Nat} {p : List Int → Prop} {x : List Int} (T : Tr S H) (e : Ex B (hide S H)) (hi : σ[i]? = some (some (.ref M))) (hM : TKs H M n p) (hk : Den tk σ B (intsD x)) (hn : n < 1000)
    (k : ∀ H1 o, Ex H H1 → TKs (upd H1 M o) M (n + 1) (fun l => p l ∨ l = x) → D.nx σ (upd H1 M o)) : sDPut (tVar i) tk (tC (.bl true)) D σ H :=
  ⟨.ref M, hi, hk S H T e _ fun y H1 e1 hy => by
    cases hy with
    | @tup b vs _ hb hx =>
      obtain ⟨kvs, h1, h2, h3⟩ := (hM.up e1).put x
      have ev := hx.ints
      refine ⟨M, _, rfl, DPut.t (k := x.map Sum.inl) h1 ?_ (sz_lt (by omega)), k H1 _ e1 (h3 _)⟩
      rw [List.map_map, hide_le b _ hb, ev]
      rfl⟩
theorem den_sortedT {i n : Nat} {M : Addr} {p : List Int → Prop} {L k : List (List Int)} (hi : σ[i]? = some (some (.ref M))) (h : TKs B M n p) (hn : n < 64) (ha : Asc L k) (e : ∀ x, p x ↔ x ∈ k) (hne : ∀ x, p x → x ≠ []) :
    Den (tCB rSortedDT (tCons (tVar i) tNil)) σ B (.list (L.map intsD)) := fun S H1 T e1 Q q => by
  obtain ⟨kvs, kz, h1, h2, h3, nd, h4⟩ := h.up e1
  refine ⟨.ref M, hi, M, kvs, kz, rfl, .inl (hide_le M _ h1), h2, by omega, fun k hk => hne k ((h4 k).mp hk), fun L' pp ht pm pw hp => ?_⟩
  have eL : L'.map (·.2) = L := Asc.one (k := kz) ⟨List.pairwise_map.mpr pw, pm.nodup_iff.mpr nd, fun x => pm.mem_iff⟩ ha fun x => (h4 x).trans (e x)
  have hd : ∀ l : List (Addr × List Int), (∀ q ∈ l, H1 q.1 = some (.tup (q.2.map V.int))) → DnAll (hide S (upd H1 pp (.lst (L'.map fun q => V.ref q.1)))) (l.map fun q => V.ref q.1) ((l.map (·.2)).map intsD) := by
    intro l
    induction l with
    | nil => intro _; exact .nil
    | cons q l ih =>
      intro hl
      have h0 := hl q List.mem_cons_self
      refine .cons (.tup (xs := q.2.map V.int) ?_ (dn_intL q.2)) (ih fun r hr => hl r (List.mem_cons_of_mem _ hr))
      rw [hide_at (T.notTup h0)]
      exact Ex.new hp _ _ h0
  refine q _ _ (Ex.new hp) (.lst (hide_new T hp) ?_)
  rw [← eL]
  exact hd L' ht
end
section
variable {P : Program} {w : World} {K : PySem.W.Frag} {mg : Str → Option Value} {base : Heap}
def team (h wd m : Nat) (p : Nat → LP.Pic) (i : Nat) : List Int := ((List.range m).filter fun j => can h wd (p i) (p j) && can h wd (p j) (p i)).map fun (j : Nat) => (j : Int)
def teams (h wd m : Nat) (p : Nat → LP.Pic) : List (List Int) := (List.range m).map (team h wd m p)
theorem can_self (h wd : Nat) (s : LP.Pic) : can h wd s s = true := by
  unfold can
  rw [LP.few_self]
  rfl
theorem team_ne {h wd m i : Nat} {p : Nat → LP.Pic} (hi : i < m) : team h wd m p i ≠ [] := fun z => by
  unfold team at z
  have := List.filter_eq_nil_iff.mp (List.map_eq_nil_iff.mp z) i (List.mem_range.mpr hi)
  rw [can_self] at this
  exact this rfl
def RGroups : List PyData → PyData → Prop := fun ds d => ∃ h wd m p, VOk h wd m ∧ ds = [valD h wd m p] ∧ ∃ L, Asc L (teams h wd m p) ∧ d = .tuple (L.map intsD)
theorem ok_groups (T : Tx mg) (h : At K mg "groups" s_groups ["value"]) (c_need_pictures : Prom P w K mg base "need_pictures" ["value"] 5 (SpR RNeedList)) (c_least_of : Prom P w K mg base "least_of" ["start", "goal"] 3 (SpR RLeast)) :
    Prom P w K mg base "groups" ["value"] 6 (SpR RGroups) := by
  refine prom_R h sc_groups (fun ds d hR => by obtain ⟨_, _, _, _, _, rfl, _⟩ := hR; rfl) fun f cdv A outer s H vs Q E S ds d hr Tr1 hv hR q => ?_
  obtain ⟨hh, wd, m, p, ⟨k, m1, m2⟩, rfl, Ls, hasc, rfl⟩ := hR
  cases hv with
  | @cons v1 _ _ _ h1 t =>
    cases t
    refine ⟨_, (pss_cons (ps_expr (pe_callP c_need_pictures (hr.mono (by decide)) (by rfl) (pa_cons (pv 0) pa_nil)))
      (pss_cons (ps_set (i := 1) sc_groups.nd rfl (.inr rfl) (pe_lc (own := [("one", 5)])  rfl sc_groups.nd (pi_seqK (K := K) (pv 0)) (blkOk_by (N := n_groups) (sc := defScope s_groups) (by decide +kernel)) (fun _ _ _ _ _ => (pg_name (i := 5) sc_groups.nd rfl (.inr rfl))) (fun _ _ _ _ _ => pts_nil) (fun _ _ _ _ _ => (pe_lc (own := [("other", 4)])  rfl sc_groups.nd (pi_seqK (K := K) (pv 0)) (blkOk_nest (N := n_groups) (sc := defScope s_groups) rfl (by decide +kernel)) (fun _ _ _ _ _ => (pg_name (i := 4) sc_groups.nd rfl (.inl rfl))) (fun _ _ _ _ _ => pts_nil) (fun _ _ _ _ _ => (pe_cmpR op_notNA (pe_callP c_least_of (hr.mono (by decide)) (by rfl) (pa_cons (pv 5) (pa_cons (pv 4) pa_nil))) pe_non (nomark _)))))))
      (pss_cons (ps_set (i := 2) sc_groups.nd rfl (.inl rfl) pe_dnewT)
      (pss_cons (ps_for PassesOwn.never rfl (pi_range1 (by rfl) T.range_ (pa_cons (pe_callB (k_len (K := K)) (by rfl) T.len_ (by decide +kernel) (pa_cons (pv 0) pa_nil)) pa_nil)) (pg_name (i := 3) sc_groups.nd rfl (.inr rfl)) (pss_one (ps_dput (hu_of hr) (pv 2) (pe_callTy (k_tup (K := K)) (by rfl) T.tuple_ (by decide +kernel) (pa_cons (pe_lc (own := [("spot", 6)])  rfl sc_groups.nd (pi_range1 (by rfl) T.range_ (pa_cons (pe_callB (k_len (K := K)) (by rfl) T.len_ (by decide +kernel) (pa_cons (pv 0) pa_nil)) pa_nil)) (blkOk_by (N := n_groups) (sc := defScope s_groups) (by decide +kernel)) (fun _ _ _ _ _ => (pg_name (i := 6) sc_groups.nd rfl (.inl rfl))) (fun _ _ _ _ _ => pts_one (PW.pt (pw_and (pt_val (pe_ix (k_ix (K := K)) (pe_ix (k_ix (K := K)) (pv 1) (pv 3) (fun _ _ => rfl)) (pv 6) (fun _ _ => rfl))) (pw_and1 (pt_val (pe_ix (k_ix (K := K)) (pe_ix (k_ix (K := K)) (pv 1) (pv 6) (fun _ _ => rfl)) (pv 3) (fun _ _ => rfl))))))) (fun _ _ _ _ _ => (pv 6))) pa_nil)) pe_bl rfl)))
      (pss_one (ps_ret (pe_callTy (k_tup (K := K)) (by rfl) T.tuple_ (by decide +kernel) (pa_cons (pe_callB (cr_sortedDT rfl hr.units) (by rfl) T.sorted_ (by decide +kernel) (pa_cons (pv 2) pa_nil)) pa_nil)))))))), ?_⟩
    refine q_dropD Tr1 (Ex.refl _) (den_call (dena_cons (den_var rfl h1) dena_nil) ⟨hh, wd, m, p, ⟨k, m1, m2⟩, rfl, rfl⟩) fun H1 e1 => ?_
    have g1 := h1.up (hide_up (S := S) e1)
    refine q_setD (Tr1.up e1) (Ex.refl _) (den_lcM (List.range m) (fun i => picD hh wd (p i)) _ (fun i => .list ((List.range m).map fun j => .bool (can hh wd (p i) (p j)))) (it_val (den_var rfl g1)) (by rw [List.length_range]; omega) (fun _ _ => asg_name) fun i hi B1 σ1 eB ⟨y, hy, ey⟩ => by
      subst ey
      exact ⟨rfl, den_lcM (List.range m) (fun i => picD hh wd (p i)) _ (fun j => .bool (can hh wd (p i) (p j))) (it_val (den_var rfl (g1.up eB))) (by rw [List.length_range]; omega) (fun _ _ => asg_name) fun j hj B2 σ2 eB2 ⟨z, hz, ez⟩ => by
        subst ez
        refine ⟨rfl, Den.to (den_op (den_call (dena_cons (den_var rfl (hy.up eB2)) (dena_cons (den_var rfl hz) dena_nil)) ⟨hh, wd, p i, p j, k, rfl, rfl⟩) den_non rd_notN) ?_⟩
        rw [isNone_optL, can_least, Bool.not_not]⟩) fun x H2 e2 hx => ?_
    have e12 := e1.trans e2
    have T2 := Tr1.up e12
    refine q_newT fun M hM => ?_
    have HM : H M = none := fresh_back e12 hM
    have nM : M ∉ S := Tr1.not HM
    have T3 : Tr (M :: S) (upd H2 M (.dT [])) := (T2.up (Ex.new hM)).cons upd_same
    have o3 : Ex (hide S H2) (hide (M :: S) (upd H2 M (.dT []))) := hide_open hM (Ex.new hM)
    have g3 := (g1.up (hide_up (S := S) e2)).up o3
    have x3 := hx.up o3
    refine q_forD (List.range m) (fun (i : Nat) => PyData.int (i : Int)) T3 (Ex.refl _) (it_range (dena_cons (den_len_val (den_var rfl g3)) dena_nil) (by omega)) fun H4 e4 => ?_
    refine ⟨fun i σ' H' => ∃ y3 y4 y5 y6 : Option V, σ' = [some v1, some x, some (.ref M), y3, y4, y5, y6] ∧ Ex H H' ∧ Ex (hide (M :: S) H4) (hide (M :: S) H') ∧ TKs H' M i (fun l => l ∈ ((List.range m).take i).map (team hh wd m p)),
      ⟨none, none, none, none, rfl, (Ex.mut e12 HM).trans e4, Ex.refl _, ⟨[], [], e4 M _ upd_same, rfl, Nat.le_refl _, .nil, fun l => by simp⟩⟩, fun _ _ _ ⟨_, _, _, _, _, _, e, _⟩ => e.trans hide_le, ?_, ?_⟩
    · rintro i a σ' H' v H'' hg ⟨y3, y4, y5, y6, rfl, eH, eB, hK⟩ e5 hv
      have hai : a = i ∧ i < m := by
        obtain ⟨h1, h2⟩ := List.getElem?_eq_some_iff.mp hg
        rw [List.length_range] at h1
        rw [List.getElem_range] at h2
        exact ⟨h2.symm, h1⟩
      obtain ⟨rfl, hi⟩ := hai
      obtain ⟨kv5, _, hM5, _⟩ := id hK
      have T5 : Tr (M :: S) H' := (Tr1.up eH).cons hM5
      have T6 := T5.up e5
      have eB6 := eB.trans (hide_up (S := M :: S) e5)
      have g6 := (g3.up (hide_up e4)).up eB6
      have x6 := (x3.up (hide_up e4)).up eB6
      refine asg_name (M :: S) H'' v T6 (hv (M :: S) T5 eB) _ fun σ2 ⟨z, hz, ez⟩ => ?_
      subst ez
      have row : ∀ i, i < m → ((List.range m).map fun i => PyData.list ((List.range m).map fun j => .bool (can hh wd (p i) (p j))))[i]? = some (.list ((List.range m).map fun j => .bool (can hh wd (p i) (p j)))) := fun i hi => by
        rw [List.getElem?_map, List.getElem?_range hi]
        rfl
      have cell : ∀ i j, j < m → ((List.range m).map fun j => PyData.bool (can hh wd (p i) (p j)))[j]? = some (.bool (can hh wd (p i) (p j))) := fun i j hj => by
        rw [List.getElem?_map, List.getElem?_range hj]
        rfl
      refine s_putT (x := team hh wd m p a) T6 (Ex.refl _) rfl (hK.up e5) (Den.to (den_cb (dena_cons (den_lc (List.range m) (fun (j : Nat) => PyData.int (j : Int)) _ (fun j => can hh wd (p a) (p j) && can hh wd (p j) (p a)) (fun (j : Nat) => .int (j : Int)) (it_range (dena_cons (den_len_val (den_var rfl g6)) dena_nil) (by omega)) (by rw [List.length_range]; omega) (fun _ _ => asg_name) fun j hj B1 σ1 eB1 ⟨y, hy, ey⟩ => by
        subst ey
        have hj := List.mem_range.mp hj
        exact ⟨rfl, tst_and (tst_B (den_op (den_op (den_var rfl (x6.up eB1)) (den_var rfl (hz.up eB1)) (rd_ixL (row a hi))) (den_var rfl hy) (rd_ixL (cell a j hj)))) (fun _ => tst_B (den_op (den_op (den_var rfl (x6.up eB1)) (den_var rfl hy) (rd_ixL (row j hj))) (den_var rfl (hz.up eB1)) (rd_ixL (cell j a hi)))), fun _ => den_var rfl hy⟩) dena_nil) rc_tupL) (by
          unfold intsD team
          rw [List.map_map]
          rfl)) (by omega) fun H7 o e7 hK7 => ?_
      have e57 := e5.trans e7
      refine ⟨some z, y4, y5, y6, rfl, Ex.mut (eH.trans e57) HM, ?_, hK7.to fun l => ?_⟩
      · rw [hide_upd]
        exact eB.trans (hide_up e57)
      · rw [List.take_add_one, hg, List.map_append, List.mem_append]
        show _ ↔ _ ∨ l ∈ [team hh wd m p a]
        rw [List.mem_singleton]
    · rintro σ' H' ⟨y3, y4, y5, y6, rfl, eH, eB, hK⟩
      have hlen : (List.range m).take (List.range m).length = List.range m := List.take_length
      rw [hlen, List.length_range] at hK
      have hK' : TKs (hide S H') M m (fun l => l ∈ (List.range m).map (team hh wd m p)) := by
        obtain ⟨kvs, kz, z1, z2⟩ := hK
        exact ⟨kvs, kz, by rw [hide_at nM]; exact z1, z2⟩
      refine s_retD (Tr1.up eH) (Ex.refl _) (den_cb (dena_cons (den_sortedT rfl hK' (by omega) hasc (fun _ => Iff.rfl) fun l hl => ?_) dena_nil) rc_tupL) fun v5 H5 e5 hv5 => q v5 H5 (eH.trans e5) hv5
      obtain ⟨i, hi, rfl⟩ := List.mem_map.mp hl
      exact team_ne (List.mem_range.mp hi)
end
end LPW

/-! ## LpStrs -/
/-! len(set(xs)), xs a list of fewer than 64 texts, some of them alike (HandS.Strs has the lists of one text at most; its road is followed here for any). -/
namespace LPW
open PySem PySem.Spec PyProof.Rows L2 Evl

/-- how many unlike ones stand among the first i -/
def unlike (xs : List Str) : Nat → Nat
  | 0 => 0
  | i + 1 => if (xs.take i).any (· == xs.getD i Str.empty) then unlike xs i else unlike xs i + 1
theorem unlike_le (xs : List Str) : ∀ i, unlike xs i ≤ i
  | 0 => Nat.le_refl _
  | i + 1 => by
    have := unlike_le xs i
    unfold unlike
    split <;> omega
theorem unlike_pos {xs : List Str} : ∀ {i : Nat}, 1 ≤ unlike xs (i + 1)
  | 0 => by
    unfold unlike
    rw [List.take_zero, List.any_nil]
    simp
  | i + 1 => by
    have := unlike_pos (xs := xs) (i := i)
    unfold unlike
    split <;> omega
/-- just one: all are alike -/
theorem unlike_one {xs : List Str} : ∀ {i : Nat}, i < xs.length → (unlike xs (i + 1) = 1 ↔ ∀ j, j ≤ i → xs.getD j Str.empty = xs.getD 0 Str.empty)
  | 0, h => by
    unfold unlike unlike
    rw [List.take_zero, List.any_nil]
    constructor
    · intro _ j hj
      rw [Nat.le_zero.mp hj]
    · intro _
      rfl
  | i + 1, h => by
    have ih := unlike_one (xs := xs) (i := i) (by omega)
    have hp := unlike_pos (xs := xs) (i := i)
    unfold unlike
    constructor
    · intro e
      split at e
      · rename_i hany
        have ih' := ih.mp e
        intro j hj
        rcases Nat.lt_or_ge j (i + 1) with h1 | h1
        · exact ih' j (by omega)
        · have ej : j = i + 1 := by omega
          subst ej
          obtain ⟨x, hx, ex⟩ := List.any_eq_true.mp hany
          obtain ⟨m, hm, rfl⟩ := List.getElem_of_mem hx
          have ex := beq_iff_eq.mp ex
          rw [← ex, List.getElem_take]
          rw [List.length_take] at hm
          have := ih' m (by omega)
          rw [← this, List.getD_eq_getElem?_getD, List.getElem?_eq_getElem (by omega)]
          rfl
      · omega
    · intro e
      rw [if_pos]
      · exact ih.mpr fun j hj => e j (by omega)
      · refine List.any_eq_true.mpr ⟨xs[0]'(by omega), ?_, ?_⟩
        · refine List.mem_of_getElem? (i := 0) ?_
          rw [List.getElem?_take, if_pos (by omega), List.getElem?_eq_getElem]
        · have := e (i + 1) (Nat.le_refl _)
          rw [this, List.getD_eq_getElem?_getD, List.getElem?_eq_getElem (by omega)]
          exact beq_self_eq_true _
section
variable {prog : Program} {w : World} {A : Around} {R : Result → Shared → Prop} {I : Addr} {fp wr : List Addr} {G : Array GenState → Array GenState → Prop} {n : Nat} {P : Nat → Value → Prop} {St : Nat → Shared → Prop}
theorem take_any (xs : List Str) (i : Nat) (hi : i < xs.length) (k : Str) : ((xs.take i).any (· == k) || decide (k = xs.getD i Str.empty)) = (xs.take (i + 1)).any (· == k) := by
  rw [List.take_add_one, List.getElem?_eq_getElem hi, List.any_append, List.getD_eq_getElem?_getD, List.getElem?_eq_getElem hi]
  congr 1
  show decide (k = xs[i]) = [xs[i]].any (· == k)
  by_cases e : k = xs[i]
  · subst e
    simp
  · have hb : (xs[i] == k) = false := beq_eq_false_iff_ne.mpr fun z => e z.symm
    simp [hb, e]
theorem texts_loop (W : WalksS prog w A.in1 I fp wr G n P St) (S : Addr) (hSf : S ∉ fp) (xs : List Str) (hsz : xs.length = n) (hn1 : n < 64)
    (hval : ∀ i v, P i v → ∃ t, v = .str (xs.getD i Str.empty) t) :
    ∀ (k i : Nat) (s : Shared), n - i = k → i ≤ n → St i s →
      s.heap.SetOf (PySem.strKind prog w) S (fun k' => (xs.take i).any (· == k')) (unlike xs i) →
      (∀ s', Moved (S :: wr) G s s' → s'.heap.SetOf (PySem.strKind prog w) S (fun k' => (xs.take n).any (· == k')) (unlike xs n) → R (.ok (.ret .none)) s') →
      codeAny (model prog w) A (.builtin "set.update.loop" ⟨[.ref S, .ref I], []⟩) R s := by
  have hSw : S ∉ wr := fun h => hSf (W.sub _ h)
  have hsub : ∀ b ∈ wr, b ∈ S :: wr := fun b hb => List.mem_cons_of_mem _ hb
  intro k
  induction k with
  | zero =>
    intro i s hk hi hst hS hR
    obtain rfl : i = n := by omega
    refine codeAny_builtin PyProof.Rows.F.entry_set_update_loop ?_
    rw [Around.under_plainId PyProof.Rows.F.plain_set_update_loop _]
    show wpAny _ A.in1 (pyNext (.ref I) >>= _) _ _ s
    refine wpAny_bind (W.done s _ _ hst fun s' hm => wpAny_pure (hR s' (hm.mono hsub) ?_))
    obtain ⟨o, es, ep, t, ho, rest⟩ := hS
    exact ⟨o, es, ep, t, hm.heap S _ hSw ho, rest⟩
  | succ k ih =>
    intro i s hk hi hst hS hR
    have hlt : i < n := by omega
    refine codeAny_builtin PyProof.Rows.F.entry_set_update_loop ?_
    rw [Around.under_plainId PyProof.Rows.F.plain_set_update_loop _]
    show wpAny _ A.in1 (pyNext (.ref I) >>= _) _ _ s
    refine wpAny_bind (W.item i s _ _ hlt hst fun v s' hP hst' hm => ?_)
    obtain ⟨t, rfl⟩ := hval i v hP
    have hS' : s'.heap.SetOf (PySem.strKind prog w) S (fun k' => (xs.take i).any (· == k')) (unlike xs i) := by
      obtain ⟨o, es, ep, tb, ho, rest⟩ := hS
      exact ⟨o, es, ep, tb, hm.heap S _ hSw ho, rest⟩
    show wpAny _ A.in1 (holding [Value.str (xs.getD i Str.empty) t] (setAdd S (.str (xs.getD i Str.empty) t)) >>= _) _ _ s'
    refine wpAny_bind (wpAny_holding ?_)
    unfold setAdd
    refine wpAny_holding ?_
    refine wpAny_bind ((PySem.strKind prog w).pyHash (k := xs.getD i Str.empty) (strKind_is _ _ _ _) ?_)
    refine wpAny_setAddHashed_of (knd := PySem.strKind prog w) (s := { s' with toks := s'.toks + 1 }) (strKind_is _ _ _ _) rfl hS' (by have := unlike_le xs i; unfold scanBound; omega) fun h' hsb hS2 => ?_
    have hSi : h'.SetOf (PySem.strKind prog w) S (fun k' => (xs.take (i + 1)).any (· == k')) (unlike xs (i + 1)) :=
      SetOf_congr hS2 (fun k' => take_any xs i (by omega) k') rfl
    refine wpAny_pure ⟨plainId_quiet PyProof.Rows.F.plain_set_update_loop _, ih (i + 1) _ (by omega) hlt (W.frame _ s' _ _ hst' (Nat.le_succ _) fun b hb o e => ?_) hSi fun s'' hm'' hS'' => ?_⟩
    · rw [hsb.2 b (fun h : b = S => hSf (by rw [← h]; exact hb))]
      exact e
    · refine hR s'' (Moved.trans W.gtrans ((hm.mono hsub).then_heap (Nat.le_succ _) fun b o hb e => ?_) hm'') hS''
      rw [hsb.2 b (fun h : b = S => hb (by rw [h]; exact List.mem_cons_self))]
      exact e
end
section
variable {prog : Program} {w : World} {A : Around} {E : Value → Shared → Prop} {s : Shared}
theorem set_of_texts {l : Addr} {items : Array Value} {xs : List Str} {Q : Value → Shared → Prop}
    (hh : A.handled = none) (hl : s.heap.IsList l items) (hi : PyProof.Rows.StrsAre items.toList xs) (hsm : xs.length < 64)
    (h : ∀ (h' : Heap) (tk : Nat), h'.SetOf (PySem.strKind prog w) s.heap.objs.size (fun k' => (xs.take items.size).any (· == k')) (unlike xs items.size) →
      (∀ b o, b < s.heap.objs.size → s.heap.get? b = some o → h'.get? b = some o) → Q (.ref s.heap.objs.size) { s with heap := h', toks := tk }) :
    wpAny (model prog w) A (call (.type "set") [.ref l]) Q E s := by
  obtain ⟨c, tl, hmro⟩ := PySem.F.called_set.mro
  have hmade := PySem.F.called_set.made
  have hsub := PySem.F.called_set.sub
  refine wpAny_call (codeAny_of_tree ?_)
  show wpAny _ _ (callAny (.type "set") _) _ _ _
  refine wpAny_pure ⟨Code.quiet_builtin _ (by decide +kernel), codeAny_builtin PySem.F.entry_type_call ?_⟩
  rw [Around.under_plain (weight_type_call_type "set" [.ref l] []) rfl]
  have h1 := PySem.F.called_set.notType
  have h2 := PySem.F.called_set.canCreate
  have hct := PySem.F.typeCall_set_1 (.ref l)
  repeat (any_goals (first | assumption | wp_step))

  refine codeAny_mono (code_set_new_1 (.ref l) (E := E) (Q₁ := fun obj s₁ => ∃ led : Bool, obj = .ref s.heap.objs.size ∧ s₁ = { s with heap := s.heap.push { cls := .type "set", dict := none, data := .set #[] 0 (.fresh 0 0 led) } }) fun led => ⟨led, rfl, rfl⟩) fun r s₁ hr => ?_
  cases r with
  | error e => exact hr
  | ok fl =>
    cases fl with
    | ret obj =>
      obtain ⟨led, rfl, rfl⟩ := hr
      have hS : (s.heap.push { cls := .type "set", dict := none, data := .set #[] 0 (.fresh 0 0 led) }).get? s.heap.objs.size = some { cls := .type "set", dict := none, data := .set #[] 0 (.fresh 0 0 led) } := Heap.get?_push_size _ rfl
      have hT : Shared.TypeIs { s with heap := s.heap.push { cls := .type "set", dict := none, data := .set #[] 0 (.fresh 0 0 led) } } (.ref s.heap.objs.size) "set" := ⟨_, hS, rfl⟩
      have hli := PySem.F.called_set.init.lookup
      have hbi := PySem.F.called_set.init.bind (.ref s.heap.objs.size)
      repeat (any_goals (first | assumption | wp_step))

      refine codeAny_mono (codeAny_call_builtin (R := wants (fun r s₂ => r = .none ∧ ∃ h' tk, s₂ = { s with heap := h', toks := tk } ∧
          h'.SetOf (PySem.strKind prog w) s.heap.objs.size (fun k' => (xs.take items.size).any (· == k')) (unlike xs items.size) ∧
          (∀ b o, b < s.heap.objs.size → s.heap.get? b = some o → h'.get? b = some o)) E) PySem.F.called_set.init.plain PySem.F.entry_set_init (check_set_init_1 hT ?_)) fun r₂ s₂ hr₂ => ?_
      · obtain ⟨ol, hol, hcl, nl, hdl⟩ := hl
        obtain ⟨ocls, odict, odata, oslots⟩ := ol
        simp only at hcl hdl
        subst hcl; subst hdl
        have hol' : (s.heap.push { cls := .type "set", dict := none, data := .set #[] 0 (.fresh 0 0 led) }).get? l = some { cls := .type "list", dict := odict, data := .seq items nl, slots := oslots } := Heap.get?_push_of_some _ hol
        have hsls := PySem.F.sub_list_set
        have hslf := PySem.F.sub_list_frozenset
        have hne : (Value.type "list" == Value.type "dict") = false := by decide
        have hl1 : (s.heap.push { cls := .type "set", dict := none, data := .set #[] 0 (.fresh 0 0 led) }).IsList l items := ⟨_, hol', rfl, nl, rfl⟩
        unfold Builtin.«set.__init__» noKeywords Builtin.Frozenset.updateFrom
        generalize hPI : pyIter = PI
        wp_walk
        subst hPI

        refine wpAny_pyIter_list hl1 ?_
        refine wpAny_bind (wpAny_runValue ?_)
        have hlS : l < s.heap.objs.size := Heap.lt_size hol
        have hh3 : A.in1.in1.in1.handled = none := by simp [hh]
        have hneI : l ≠ (s.heap.push { cls := .type "set", dict := none, data := .set #[] 0 (.fresh 0 0 led) }).objs.size := by
          rw [Heap.size_push]; exact Nat.ne_of_lt (Nat.lt_succ_of_lt hlS)
        have hSf : s.heap.objs.size ∉ [(s.heap.push { cls := .type "set", dict := none, data := .set #[] 0 (.fresh 0 0 led) }).objs.size, l] := by
          rw [Heap.size_push]; simp only [List.mem_cons, List.mem_singleton, List.not_mem_nil, or_false, not_or]
          exact ⟨Nat.ne_of_lt (Nat.lt_succ_self _), Nat.ne_of_gt hlS⟩
        have hsz : xs.length = items.size := by rw [← StrsAre.len_eq hi, Array.length_toList]
        have hval : ∀ (i : Nat) (v : Value), items[i]? = some v → ∃ t, v = .str (xs.getD i Str.empty) t := fun i v hv => SS.strs_at hi i v (by rw [Array.getElem?_toList]; exact hv)
        refine texts_loop ((Walks.list hh3 _ l hneI items).toS) s.heap.objs.size
          hSf xs hsz (by rw [← hsz]; exact hsm) hval (items.size - 0) 0 _ (by omega) (Nat.zero_le _)
          ⟨⟨_, Heap.get?_push_size _ rfl, rfl, rfl⟩, (hl1.push _)⟩ ?hS0 ?hR
        case hS0 =>
          have hget : ((s.heap.push { cls := .type "set", dict := none, data := .set #[] 0 (.fresh 0 0 led) }).push { cls := .type "list_iterator", data := .fields #[.ref l, .int 0 0] }).get? s.heap.objs.size
              = some { cls := .type "set", dict := none, data := .set #[] 0 (.fresh 0 0 led) } := Heap.get?_push_of_some _ hS
          exact PyProof.Rows.SetOf_congr ((PyProof.Rows.setObjOf_fresh (knd := PySem.strKind prog w) led).setOf hget (by unfold scanBound; omega)) (fun _ => rfl) rfl
        case hR =>
          intro s' hm hS'
          obtain ⟨h', g', d', tk', os'⟩ := s'
          have eg : g' = s.gens := hm.gens
          have ed : d' = s.drawn := hm.drawn
          have eo : os' = s.os := hm.os
          subst eg; subst ed; subst eo
          show wpAny _ _ _ _ _ _
          refine wpAny_pure ?_
          show wpAny _ _ (ret Value.none) _ _ _
          refine wpAny_pure ⟨rfl, h', tk', rfl, hS', fun b o hb e => ?_⟩
          have hb1 : b ≠ s.heap.objs.size := Nat.ne_of_lt hb
          have hb2 : b ≠ (s.heap.push { cls := .type "set", dict := none, data := .set #[] 0 (.fresh 0 0 led) }).objs.size := by
            rw [Heap.size_push]; exact Nat.ne_of_lt (Nat.lt_succ_of_lt hb)
          exact hm.heap b o (by simp only [List.mem_cons, List.mem_singleton, List.not_mem_nil, or_false, not_or]; exact ⟨hb1, hb2⟩) (Heap.get?_push_of_some _ (Heap.get?_push_of_some _ e))

      · cases r₂ with
        | error e => exact hr₂
        | ok fl₂ =>
          cases fl₂ with
          | ret r =>
            obtain ⟨rfl, h', tk, rfl, hS', hk'⟩ := hr₂
            repeat (any_goals (first | assumption | wp_step))
            exact h _ _ hS' hk'
          | _ => exact hr₂.elim
    | _ => exact hr.elim

end
section
variable {X : Cx}
def tLenSetS (K : PySem.W.Frag) (ta : TE) : TE := fun σ H Q => ta σ H fun x H1 => ∃ (l : Addr) (xs : List Str), x = .ref l ∧ SqL K H1 l (xs.map V.str) ∧ xs.length < 64 ∧ Q (.int (unlike xs xs.length : Nat)) H1
theorem pe_lenSetS {K : PySem.W.Frag} {a : Expr} {ta : TE} {p p2 q pos : Pos} (hc : X.calm = true) (hg : Gl X "len") (hm : X.mg "len" = none) (hg2 : Gl X "set") (hm2 : X.mg "set" = none) (ha : PE X a ta) (hK : X.K = K := by rfl)
    (na : starEach [a] X.env = (false, eval a X.env) :: starEach [] X.env := by rfl) : PE X (.Call (.Name "len" p) [.Call (.Name "set" p2) [a] [] q] [] pos) (tLenSetS K ta) := by
  subst hK
  refine ⟨fun pins s σ H Q I h => ?_⟩
  refine Call_ (ld_blt I hg hm boot_len ?_)
  refine PyProof.Rows.callWith_builtin1 (PyProof.Rows.args_cons ?_ rfl) rfl rfl
  refine Call_ (ld_blt I hg2 hm2 boot_set ?_)
  refine PyProof.Rows.callWith_type1 (PyProof.Rows.args_cons (thn (ha.run pins s σ H _ I h) fun v s1 ⟨x, H1, I1, r1, q1⟩ => PyProof.Rows.args_nil ?_) na) na rfl
  obtain ⟨l, xs, rfl, hq, h1, q1⟩ := q1
  cases r1
  obtain ⟨its, r, pl, hz⟩ := I1.list hq
  have hl : its.toArray.size = xs.length := by rw [List.size_toArray, ← r.length, List.length_map]
  refine set_of_texts (I1.ok.hd hc) pl.isList (by simpa using strsAre_of r) h1 fun h' tk hS hk => ?_
  rw [hl] at hS
  refine PyProof.Rows.args_nil ?_
  obtain ⟨o, es, ep, t, ho, hex, hd, _, _, _, hf, hn⟩ := hS
  have hle := unlike_le xs xs.length
  have I2 : Inv X pins σ H1 { s1 with heap := h', toks := tk } := I1.kept fun b o e => hk b o (Heap.lt_size e) e
  exact call_len_set ho hex hd hf (by rw [hn] <;> omega) ⟨.int (unlike xs xs.length : Nat), H1, I2.tok _, ⟨_, by rw [hn]⟩, q1⟩
theorem den_lenSetS {te : TE} {σ : L2.St} {B : Hp} {K : PySem.W.Frag} {xs : List Str} (h : Den te σ B (.list (xs.map PyData.str))) (h64 : xs.length < 64) : Den (tLenSetS K te) σ B (.int (unlike xs xs.length : Nat)) := fun S H1 T e Q q =>
  h S H1 T e _ fun v H2 e2 hv => by
    cases hv with
    | @lst a vs _ hx hd =>
      have := hd.strs
      exact ⟨a, xs, rfl, .inl (.inl (by rw [← this]; exact hide_le a _ hx)), h64, q _ H2 e2 (.int _)⟩
end
end LPW

/-! ## LpDraw -/
/-! Expressions that draw from the row: all is kept but the row, a list of [script, int, int, int] at r, hidden. -/
namespace LPW
open PySem PySem.Spec PyProof.Rows L2 Evl

/-- all but r is kept -/
def Mv (r : Addr) (H H' : Hp) : Prop := ∀ b o, b ≠ r → H b = some o → H' b = some o
structure Row (K : PySem.W.Frag) (S : List Addr) (H : Hp) (r a : Addr) (scp : List Int) : Prop where
  mem : r ∈ S
  scr : SqL K (hide S H) a (scp.map V.int)
  len : scp.length ≤ 63
  at_ : ∃ i s z : Int, H r = some (.lst [.ref a, .int i, .int s, .int z]) ∧ 0 ≤ i
theorem sqL_up {K : PySem.W.Frag} {H H' : Hp} {a : Addr} {xs : List V} (h : SqL K H a xs) (e : Ex H H') : SqL K H' a xs := by
  rcases h with h | h
  · rcases h with h | ⟨o, h⟩
    · exact .inl (.inl (e _ _ h))
    · exact .inl (.inr ⟨o, e _ _ h⟩)
  · exact .inr h
section
variable {K : PySem.W.Frag} {S : List Addr} {H H' H2 : Hp} {r a D : Addr} {scp : List Int} {o : HO}
theorem Mv.refl : Mv r H H := fun _ _ _ h => h
theorem Mv.trans (h1 : Mv r H H') (h2 : Mv r H' H2) : Mv r H H2 := fun b o n h => h2 b o n (h1 b o n h)
theorem mv_of (e : Ex H H') : Mv r H H' := fun b o _ h => e b o h
theorem Mv.ex (m : Mv r H H') (hr : r ∈ S) : Ex (hide S H) (hide S H') := fun b o h => by
  unfold hide at h ⊢
  by_cases hb : b ∈ S
  · rw [if_pos hb] at h
    cases h
  · rw [if_neg hb] at h ⊢
    exact m b o (fun z => hb (z ▸ hr)) h
theorem Row.some (R : Row K S H r a scp) : ∃ xs, H r = some (.lst xs) := by
  obtain ⟨_, _, _, h, _⟩ := R.at_
  exact ⟨_, h⟩
theorem Row.ne (R : Row K S H r a scp) (h : H D = none) : D ≠ r := fun z => by
  obtain ⟨_, h1⟩ := R.some
  rw [← z, h] at h1
  cases h1
theorem Mv.back (m : Mv r H H') (R : Row K S H' r a scp) (h : H' D = none) : H D = none := by
  cases e : H D with
  | none => rfl
  | some o =>
    have := m D o (R.ne h) e
    rw [h] at this
    cases this
theorem Mv.mut (m : Mv r H H') (h : H D = none) : Mv r H (upd H' D o) := fun b o' n hb => by
  have : b ≠ D := fun z => by
    rw [z, h] at hb
    cases hb
  rw [upd_ne this]
  exact m b o' n hb
theorem Tr.mv (t : Tr S H) (m : Mv r H H') (R : Row K S H' r a scp) : Tr S H' := fun b hb => by
  by_cases e : b = r
  · obtain ⟨xs, h⟩ := R.some
    rw [e]
    exact ⟨_, h, fun _ z => by cases z⟩
  · obtain ⟨o, h1, h2⟩ := t b hb
    exact ⟨o, m b o e h1, h2⟩
theorem Row.ex (R : Row K S H r a scp) (e : Ex H H') : Row K S H' r a scp := by
  obtain ⟨i, s, z, h, hi⟩ := R.at_
  exact ⟨R.mem, sqL_up R.scr (hide_up e), R.len, i, s, z, e _ _ h, hi⟩
theorem Row.new (R : Row K S H r a scp) (h : H D = none) : Row K (D :: S) (upd H D o) r a scp := by
  obtain ⟨i, s, z, h1, hi⟩ := R.at_
  exact ⟨List.mem_cons_of_mem _ R.mem, sqL_up R.scr (hide_open h (Ex.new h)), R.len, i, s, z, by rw [upd_ne (R.ne h).symm]; exact h1, hi⟩
theorem Row.upd (R : Row K (D :: S) H r a scp) (n : D ≠ r) : Row K (D :: S) (upd H D o) r a scp := by
  obtain ⟨i, s, z, h1, hi⟩ := R.at_
  exact ⟨R.mem, by rw [hide_upd]; exact R.scr, R.len, i, s, z, by rw [upd_ne n.symm]; exact h1, hi⟩
theorem Row.pop (R : Row K (D :: S) H r a scp) (n : D ≠ r) : Row K S H r a scp := by
  refine ⟨?_, sqL_up R.scr hide_less, R.len, R.at_⟩
  rcases List.mem_cons.mp R.mem with e | e
  · exact absurd e.symm n
  · exact e
end

/-! ### data that a draw leaves open: C says which it may be -/
section
variable {K : PySem.W.Frag} {r a : Addr} {scp : List Int}
def DenD (K : PySem.W.Frag) (r a : Addr) (scp : List Int) (te : TE) (σ : L2.St) (B : Hp) (C : PyData → Prop) : Prop :=
  ∀ S H1, Tr S H1 → Row K S H1 r a scp → Ex B (hide S H1) → ∀ Q : VK, (∀ v d H2, Mv r H1 H2 → Row K S H2 r a scp → Dn (hide S H2) v d → C d → Q v H2) → te σ H1 Q
def DenAD (K : PySem.W.Frag) (r a : Addr) (scp : List Int) (ta : TA) (σ : L2.St) (B : Hp) (C : List PyData → Prop) : Prop :=
  ∀ S H1, Tr S H1 → Row K S H1 r a scp → Ex B (hide S H1) → ∀ Q : List V → Hp → Prop, (∀ vs ds H2, Mv r H1 H2 → Row K S H2 r a scp → DnAll (hide S H2) vs ds → C ds → Q vs H2) → ta σ H1 Q
def TstD (K : PySem.W.Frag) (r a : Addr) (scp : List Int) (tt : TT) (σ : L2.St) (B : Hp) : Prop :=
  ∀ S H1, Tr S H1 → Row K S H1 r a scp → Ex B (hide S H1) → ∀ Q : Bool → Hp → Prop, (∀ b H2, Mv r H1 H2 → Row K S H2 r a scp → Q b H2) → tt σ H1 Q
variable {σ : L2.St} {B : Hp} {te ta tb : TE} {tt : TT} {C C1 C2 : PyData → Prop} {d d1 d2 : PyData}
theorem Den.dd (h : Den te σ B d) : DenD K r a scp te σ B (fun x => x = d) := fun S H1 T R e Q q => h S H1 T e Q fun v H2 e2 hv => q v d H2 (mv_of e2) (R.ex e2) hv rfl
theorem DenD.mono (h : DenD K r a scp te σ B C) (hc : ∀ d, C d → C1 d) : DenD K r a scp te σ B C1 := fun S H1 T R e Q q => h S H1 T R e Q fun v d H2 m R2 hv hd => q v d H2 m R2 hv (hc d hd)
theorem denD_op {rr : R2} (ha : DenD K r a scp ta σ B C1) (hb : DenD K r a scp tb σ B C2) (hr : ∀ x y, C1 x → C2 y → ∃ z, RD rr x y z ∧ C z) : DenD K r a scp (tOp rr ta tb) σ B C := fun S H1 T R e Q q =>
  ha S H1 T R e _ fun x dx H2 m2 R2 hx cx => hb S H2 (T.mv m2 R2) R2 (e.trans (m2.ex R2.mem)) _ fun y dy H3 m3 R3 hy cy => by
    obtain ⟨dz, hz, cz⟩ := hr dx dy cx cy
    exact hz S H3 x y ((T.mv m2 R2).mv m3 R3) (hx.up (m3.ex R3.mem)) hy Q fun z H4 e4 hz' => q z dz H4 ((m2.trans m3).trans (mv_of e4)) (R3.ex e4) hz' cz
theorem denAD_nil : DenAD K r a scp tNil σ B (fun ds => ds = []) := fun S H1 T R e Q q => q [] [] H1 .refl R .nil rfl
theorem denAD_cons {tr : TA} {Cs : List PyData → Prop} (h : DenD K r a scp ta σ B C1) (hr : DenAD K r a scp tr σ B Cs) : DenAD K r a scp (tCons ta tr) σ B (fun ds => ∃ d l, ds = d :: l ∧ C1 d ∧ Cs l) := fun S H1 T R e Q q =>
  h S H1 T R e _ fun x dx H2 m2 R2 hx cx => hr S H2 (T.mv m2 R2) R2 (e.trans (m2.ex R2.mem)) _ fun xs ds H3 m3 R3 hxs cs => q _ (dx :: ds) H3 (m2.trans m3) R3 (.cons (hx.up (m3.ex R3.mem)) hxs) ⟨dx, ds, rfl, cx, cs⟩
theorem DenA.dd {tr : TA} {ds : List PyData} (h : DenA tr σ B ds) : DenAD K r a scp tr σ B (fun l => l = ds) := fun S H1 T R e Q q => h S H1 T e Q fun vs H2 e2 hv => q vs ds H2 (mv_of e2) (R.ex e2) hv rfl
def SpD (K : PySem.W.Frag) (R : List PyData → (PyData → Prop) → Prop) : Sp := fun vs H Q _ => ∃ S r a scp us ds C, vs = .ref r :: us ∧ Tr S H ∧ Row K S H r a scp ∧ DnAll (hide S H) us ds ∧ R ds C ∧
  ∀ v d H', Mv r H H' → Row K S H' r a scp → Dn (hide S H') v d → C d → Q v H'
theorem denD_call {i : Nat} {RR : List PyData → (PyData → Prop) → Prop} {tr : TA} {Cs : List PyData → Prop} {E : XK} (hi : σ[i]? = some (some (.ref r))) (h : DenAD K r a scp tr σ B Cs) (hR : ∀ ds, Cs ds → RR ds C) :
    DenD K r a scp (tCall (SpD K RR) [] E (tCons (tVar i) tr)) σ B C := fun S H1 T R e Q q =>
  ⟨.ref r, hi, h S H1 T R e _ fun vs ds H2 m2 R2 hv cs => by
    show SpD K RR ((.ref r :: vs) ++ []) H2 Q E
    rw [List.append_nil]
    exact ⟨S, r, a, scp, vs, ds, C, rfl, T.mv m2 R2, R2, hv, hR ds cs, fun v d H' m3 R3 hv' cd => q v d H' (m2.trans m3) R3 hv' cd⟩⟩
theorem tstD_test (h : DenD K r a scp te σ B (fun d => ∃ b, d = .bool b)) : TstD K r a scp (tTest te) σ B := fun S H1 T R e Q q => h S H1 T R e _ fun v d H2 m2 R2 hv ⟨b, hb⟩ => by
  subst hb
  cases hv
  exact ⟨b, rfl, q b H2 m2 R2⟩
theorem tstD_B (h : DenD K r a scp te σ B (fun d => ∃ b, d = .bool b)) : TstD K r a scp (tB te) σ B := fun S H1 T R e Q q => h S H1 T R e _ fun v d H2 m2 R2 hv ⟨b, hb⟩ => by
  subst hb
  cases hv
  exact ⟨b, rfl, q b H2 m2 R2⟩
theorem denD_if (h : TstD K r a scp tt σ B) (h1 : DenD K r a scp ta σ B C) (h2 : DenD K r a scp tb σ B C) : DenD K r a scp (tIf tt ta tb) σ B C := fun S H1 T R e Q q =>
  h S H1 T R e _ fun b H2 m2 R2 => by
    cases b with
    | true =>
      show ta σ H2 Q
      exact h1 S H2 (T.mv m2 R2) R2 (e.trans (m2.ex R2.mem)) Q fun v d H3 m3 R3 hv cd => q v d H3 (m2.trans m3) R3 hv cd
    | false =>
      show tb σ H2 Q
      exact h2 S H2 (T.mv m2 R2) R2 (e.trans (m2.ex R2.mem)) Q fun v d H3 m3 R3 hv cd => q v d H3 (m2.trans m3) R3 hv cd
/-- a comprehension whose items draw -/
theorem denD_lc {α : Type} {wi : TI} {g : TG} {vs : List Nat} (xs : List α) (enc : α → PyData) (P : α → Hp → L2.St → Prop) (C0 : PyData → Prop) (hi : ItD wi σ B (xs.map enc)) (hz : xs.length ≤ 100000)
    (ha : ∀ x ∈ xs, AsgD g (wipe σ vs) (enc x) (P x)) (hb : ∀ x ∈ xs, ∀ B1 σ1, Ex B B1 → P x B1 σ1 → wipe σ1 vs = wipe σ vs ∧ DenD K r a scp te σ1 B1 C0) :
    DenD K r a scp (tLc wi g tYes te vs) σ B (fun d => ∃ ds, d = .list ds ∧ ds.length = xs.length ∧ ∀ y ∈ ds, C0 y) := fun S H1 T R e Q q => by
  refine hi S H1 T e _ fun J H2 e2 w D hD => ?_
  rw [List.length_map] at w
  have R2 := R.ex e2
  have nD : D ≠ r := R2.ne hD
  refine lc_it w (fun i H' => Mv r H2 H' ∧ Row K (D :: S) H' r a scp ∧ Ex (hide S H2) (hide (D :: S) H') ∧ ∃ acc ds, H' D = some (.lst acc) ∧ acc.length = i ∧ ds.length = i ∧ DnAll (hide (D :: S) H') acc ds ∧ ∀ y ∈ ds, C0 y)
    ⟨mv_of (Ex.new hD), R2.new hD, hide_open hD (Ex.new hD), [], [], upd_same, rfl, rfl, .nil, fun y hy => nomatch hy⟩ (fun i H' _ h => h.2.2.1.trans hide_le) ?_ ?_
  · rintro i x H H' hi ⟨m3, R3, o3, acc, ds, hacc, hl1, hl2, hd, hC⟩ ⟨e4, y⟩
    have hget : xs[i]? = some xs[i] := List.getElem?_eq_getElem hi
    have hmem : xs[i] ∈ xs := List.getElem_mem hi
    have T3 : Tr (D :: S) H := fun b hb => by
      rcases List.mem_cons.mp hb with z | hb
      · rw [z]
        exact ⟨_, hacc, fun _ z => by cases z⟩
      · exact (T.up e2).mv m3 (R3.pop nD) b hb
    have hx := y (D :: S) T3 o3 (enc xs[i]) (by rw [List.getElem?_map, hget]; rfl)
    have R4 := R3.ex e4
    have eB : Ex B (hide (D :: S) H') := (e.trans (hide_up e2)).trans (o3.trans (hide_up e4))
    refine ha _ hmem (D :: S) H' x (T3.up e4) hx _ fun σ' hP => ?_
    obtain ⟨hw, he⟩ := hb _ hmem _ σ' eB hP
    refine ⟨hw, ?_⟩
    show te σ' H' _
    refine he (D :: S) H' (T3.up e4) R4 (Ex.refl _) _ fun z dz H5 m5 R5 hz' cz => ?_
    have d5 := m5 D _ nD (e4 D _ hacc)
    refine ⟨acc, d5, sz_lt (by omega), (m3.trans (mv_of e4)).trans m5 |>.mut hD, R5.upd nD, ?_, acc ++ [z], ds ++ [dz], upd_same, by rw [List.length_append, hl1]; rfl, by rw [List.length_append, hl2]; rfl, ?_, fun y hy => ?_⟩
    · rw [hide_upd]
      exact (o3.trans (hide_up e4)).trans (m5.ex R5.mem)
    · rw [hide_upd]
      exact ((hd.up (hide_up e4)).up (m5.ex R5.mem)).snoc hz'
    · rcases List.mem_append.mp hy with hy | hy
      · exact hC y hy
      · rw [List.mem_singleton.mp hy]
        exact cz
  · rintro H' ⟨m3, R3, o3, acc, ds, hacc, hl1, hl2, hd, hC⟩
    refine q _ (.list ds) H' ((mv_of e2).trans m3) (R3.pop nD) (.lst ?_ (hd.up hide_less)) ⟨ds, rfl, hl2, hC⟩
    rw [hide_at ((T.up e2).not hD)]
    exact hacc
end
/-! ### statements -/
section
variable {K : PySem.W.Frag} {r a : Addr} {scp : List Int} {σ : L2.St} {B H : Hp} {S : List Addr} {te : TE} {tt : TT} {tu tw tz : TS} {D : Ends} {C : PyData → Prop}
theorem q_setDD {i : Nat} (T : Tr S H) (R : Row K S H r a scp) (e : Ex B (hide S H)) (h : DenD K r a scp te σ B C) (k : ∀ x d H1, Mv r H H1 → Row K S H1 r a scp → Dn (hide S H1) x d → C d → tz D (σ.set i (some x)) H1) : tSeq (tAsg te (gName i)) tz D σ H :=
  h S H T R e _ fun v d H1 m R1 hv cd => k v d H1 m R1 hv cd
theorem s_setDD {i : Nat} (T : Tr S H) (R : Row K S H r a scp) (e : Ex B (hide S H)) (h : DenD K r a scp te σ B C) (k : ∀ x d H1, Mv r H H1 → Row K S H1 r a scp → Dn (hide S H1) x d → C d → D.nx (σ.set i (some x)) H1) : tAsg te (gName i) D σ H :=
  h S H T R e _ fun v d H1 m R1 hv cd => k v d H1 m R1 hv cd
theorem s_retDD (T : Tr S H) (R : Row K S H r a scp) (e : Ex B (hide S H)) (h : DenD K r a scp te σ B C) (k : ∀ x d H1, Mv r H H1 → Row K S H1 r a scp → Dn (hide S H1) x d → C d → D.rt x H1) : tRet te D σ H :=
  h S H T R e _ fun v d H1 m R1 hv cd => k v d H1 m R1 hv cd
theorem s_appDD {i : Nat} {L : Addr} {acc : List V} (T : Tr S H) (R : Row K S H r a scp) (e : Ex B (hide S H)) (hi : σ[i]? = some (some (.ref L))) (hL : H L = some (.lst acc)) (nL : L ≠ r) (hz : acc.length < 100000) (h : DenD K r a scp te σ B C)
    (k : ∀ x d H1, Mv r H H1 → Row K S H1 r a scp → Dn (hide S H1) x d → C d → D.nx σ (upd H1 L (.lst (acc ++ [x])))) : tDrop (tBM K "list" rAppend (tVar i) (tCons te tNil)) D σ H :=
  ⟨.ref L, hi, .inl ⟨rfl, acc, .inl (.inl hL)⟩, h S H T R e _ fun v d H1 m R1 hv cd => ⟨L, acc, v, rfl, rfl, m L _ nL hL, sz_lt hz, k v d H1 m R1 hv cd⟩⟩
end
section
variable {P : Program} {w : World} {K : PySem.W.Frag} {mg : Str → Option Value} {base : Heap}
theorem prom_D {x : Str} {st : Stmt} {ps N : List Str} {k : Nat} {RR : List PyData → (PyData → Prop) → Prop} (h : At K mg x st ps) (SC : FnScope N ps (defScope st)) (hlen : ∀ ds C, RR ds C → ds.length + 1 = ps.length)
    (hbody : ∀ (f : Addr) (cdv : Value) (A : Around) (outer : List Env) (s : Shared) (H : Hp) (us : List V) (Q : VK) (E : XK) (S : List Addr) (r a : Addr) (scp : List Int) (ds : List PyData) (C : PyData → Prop), Room k (A.deeper (envOfC x (defScope st) s.heap.objs.size f cdv)) →
      Tr S H → Row K S H r a scp → DnAll (hide S H) us ds → RR ds C → (∀ v d H', Mv r H H' → Row K S H' r a scp → Dn (hide S H') v d → C d → Q v H') →
      ∃ t, PSs (cxOf CX0 P w K mg base N x (defScope st) f cdv A outer s H E).nox (defBody st) t ∧ t { nx := fun _ H' => Q .non H', rt := Q } (start N (.ref r :: us)) H) : Prom P w K mg base x ps (k + 1) (SpD K RR) :=
  prom_of h SC (fun vs H Q E hq => by
    obtain ⟨S, r, a, scp, us, ds, C, rfl, _, _, hv, hR, _⟩ := hq
    rw [List.length_cons, hv.len]
    exact hlen ds C hR) fun f cdv A outer s H vs Q E hr hq => by
    obtain ⟨S, r, a, scp, us, ds, C, rfl, T, R, hv, hR, q⟩ := hq
    exact hbody f cdv A outer s H us Q E S r a scp ds C hr T R hv hR q
end
end LPW

/-! ## LpL1 -/
/-! law_taken, law_pick. -/
namespace LPW
open PySem PySem.Spec PyProof.Rows L2 Evl

/-! ### values where the heap stays -/
def VL (te : TE) (σ : L2.St) (H : Hp) (v : V) : Prop := ∀ Q : VK, Q v H → te σ H Q
section
variable {K : PySem.W.Frag} {σ : L2.St} {H : Hp} {te ta tb : TE} {v x y z : V} {r : Addr}
theorem vl_var {i : Nat} (h : σ[i]? = some (some v)) : VL (tVar i) σ H v := fun Q q => ⟨v, h, q⟩
theorem vl_c : VL (tC v) σ H v := fun Q q => q
theorem vl_op {rr : R2} (ha : VL ta σ H x) (hb : VL tb σ H y) (hr : ∀ Q : VK, Q z H → rr x y H Q) : VL (tOp rr ta tb) σ H z := fun Q q => ha _ (hb _ (hr Q q))
theorem vl_row {xs : List V} {j : Nat} (h0 : σ[0]? = some (some (.ref r))) (h : H r = some (.lst xs)) (hj : xs[j]? = some v) : VL (tOp (rIx K) (tVar 0) (tC (.int (j : Int)))) σ H v :=
  vl_op (vl_var h0) vl_c fun Q q => .inl ⟨r, xs, j, v, rfl, rfl, .inl (.inl h), atI_nat hj, q⟩
theorem vl_add {i j : Int} (ha : VL ta σ H (.int i)) (hb : VL tb σ H (.int j)) : VL (tOp rAddA ta tb) σ H (.int (i + j)) := vl_op ha hb fun Q q => .inl ⟨i, j, rfl, rfl, q⟩
theorem vl_sub {i j : Int} (ha : VL ta σ H (.int i)) (hb : VL tb σ H (.int j)) : VL (tOp rSub ta tb) σ H (.int (i - j)) := vl_op ha hb fun Q q => ⟨i, j, rfl, rfl, q⟩
theorem vl_mul {i : Int} (ha : VL ta σ H (.int i)) : VL (tOp (rI CMul fun i j => .int (i * j)) ta (tC (.int 48271))) σ H (.int (i * 48271)) := vl_op ha vl_c fun Q q => ⟨i, 48271, rfl, rfl, .inr ⟨by decide, by decide⟩, q⟩
theorem vl_mod {i j : Int} (ha : VL ta σ H (.int i)) (hb : VL tb σ H (.int j)) (hj : 0 < j) : VL (tOp (rI (fun _ j => 0 < j) fun i j => .int (i % j)) ta tb) σ H (.int (i % j)) := vl_op ha hb fun Q q => ⟨i, j, rfl, rfl, hj, q⟩
theorem vl_div {i j : Int} (ha : VL ta σ H (.int i)) (hb : VL tb σ H (.int j)) (hj : 0 < j) (hs : j < 1073741824) : VL (tOp (rI CDivN fun i j => .int (i.fdiv j)) ta tb) σ H (.int (i.fdiv j)) := vl_op ha hb fun Q q => ⟨i, j, rfl, rfl, ⟨by omega, by omega⟩, q⟩
theorem vl_int {i : Int} (ha : VL ta σ H (.int i)) : VL (tCB (fun xs H Q => (∃ i, xs = [.int i] ∧ Q (.int i) H) ∨ ∃ k, xs = [.bl k] ∧ Q (.int (if k then 1 else 0)) H) (tCons ta tNil)) σ H (.int i) := fun Q q => ha _ (.inl ⟨i, rfl, q⟩)
variable {tu tw tz : TS} {D : Ends} {t : TT}
theorem q_whenV (h : ∃ b, VL te σ H (.bl b)) (h1 : tu { D with nx := tz D } σ H) (h2 : tz D σ H) : tSeq (tIfS (tTest te) tu tNext) tz D σ H := by
  obtain ⟨b, h⟩ := h
  refine h _ ⟨b, rfl, ?_⟩
  cases b with
  | true => exact h1
  | false => exact h2
theorem q_caseV {b : Bool} (h : VL te σ H (.bl b)) (h1 : b = true → tu { D with nx := tz D } σ H) (h2 : b = false → tz D σ H) : tSeq (tIfS (tTest te) tu tNext) tz D σ H := by
  refine h _ ⟨b, rfl, ?_⟩
  cases b with
  | true => exact h1 rfl
  | false => exact h2 rfl
theorem q_setV {i : Nat} (h : VL te σ H v) (k : tz D (σ.set i (some v)) H) : tSeq (tAsg te (gName i)) tz D σ H := h _ k
theorem s_rowV {xs : List V} {j : Nat} (h : VL te σ H v) (h0 : σ[0]? = some (some (.ref r))) (hr : H r = some (.lst xs)) (hj : j < xs.length) (k : D.nx σ (upd H r (.lst (xs.set j v)))) : tAsg te (gSub (tVar 0) (tC (.int (j : Int))) rSetL) D σ H :=
  h _ ⟨.ref r, h0, r, xs, j, j, rfl, rfl, hr, by unfold ixN; rw [if_pos (by omega), if_pos (by omega)]; rfl, k⟩
theorem q_rowV {xs : List V} {j : Nat} (h : VL te σ H v) (h0 : σ[0]? = some (some (.ref r))) (hr : H r = some (.lst xs)) (hj : j < xs.length) (k : tz D σ (upd H r (.lst (xs.set j v)))) : tSeq (tAsg te (gSub (tVar 0) (tC (.int (j : Int))) rSetL)) tz D σ H :=
  s_rowV (D := { D with nx := tz D }) h h0 hr hj k
theorem s_retV (h : VL te σ H v) (k : D.rt v H) : tRet te D σ H := h _ k
end
section
variable {P : Program} {w : World} {K : PySem.W.Frag} {mg : Str → Option Value} {base : Heap}
theorem Row.set {S : List Addr} {H : Hp} {r a : Addr} {scp : List Int} (R : Row K S H r a scp) {i s z : Int} (hi : 0 ≤ i) : Mv r H (L2.upd H r (.lst [.ref a, .int i, .int s, .int z])) ∧ Row K S (L2.upd H r (.lst [.ref a, .int i, .int s, .int z])) r a scp := by
  refine ⟨fun b o n h => by rw [upd_ne n]; exact h, R.mem, sqL_up R.scr fun b o h => ?_, R.len, i, s, z, upd_same, hi⟩
  unfold hide at h ⊢
  by_cases m : b ∈ S
  · rw [if_pos m] at h
    cases h
  · rw [if_neg m] at h ⊢
    rw [upd_ne fun e => m (by rw [e]; exact R.mem)]
    exact h
def below (m : Nat) : PyData → Prop := fun d => ∃ k : Nat, k < m ∧ d = .int (k : Int)
def RTaken : List PyData → (PyData → Prop) → Prop := fun ds C => ∃ m : Nat, 1 ≤ m ∧ m ≤ 1000 ∧ ds = [.int (m : Int)] ∧ C = below m
theorem ok_law_taken (T : Tx mg) (h : At K mg "_law_taken" s_law_taken ["_law_row", "_law_many"]) : Prom P w K mg base "_law_taken" ["_law_row", "_law_many"] 1 (SpD K RTaken) := by
  refine prom_D h sc_law_taken (fun ds C hR => by obtain ⟨_, _, _, rfl, _⟩ := hR; rfl) fun f cdv A outer s H us Q E S r a scp ds C hr Tr1 R hv hR q => ?_
  obtain ⟨m, m1, m2, rfl, rfl⟩ := hR
  cases hv with
  | cons h1 t =>
    cases t
    cases h1
    obtain ⟨i, sd, z, hrow, hi⟩ := R.at_
    have done : ∀ (n : Int) (H' : Hp), Mv r H H' → Row K S H' r a scp → Q (.int (n % (m : Int))) H' := fun n H' mv R' => by
      have hm : (0 : Int) < (m : Int) := by omega
      have e : n % (m : Int) = (((n % (m : Int)).toNat : Nat) : Int) := (Int.toNat_of_nonneg (Int.emod_nonneg _ (by omega))).symm
      have lt := Int.emod_lt_of_pos n hm
      rw [e]
      exact q _ _ H' mv R' (.int _) ⟨_, by omega, rfl⟩
    refine ⟨_, (pss_cons (ps_if (pt_cmpR op_gtA (pe_ix (k_ix (K := K)) (pv 0) pe_int (fun _ _ => rfl)) pe_int (nomark _)) (pss_cons (ps_set (i := 2) sc_law_taken.nd rfl (.inl rfl) (pe_op op_mod (pe_callTy call_int1 (by rfl) T.int_ (by decide +kernel) (pa_cons (pe_ix (k_ix (K := K)) (pv 0) pe_int (fun _ _ => rfl)) pa_nil)) (pv 1)))
      (pss_cons (ps_asg (pe_op op_fdivN (pe_ix (k_ix (K := K)) (pv 0) pe_int (fun _ _ => rfl)) (pv 1)) (pg_sub (pv 0) pe_int set_list))
      (pss_one (ps_ret (pv 2))))) pss_nil)
      (pss_cons (ps_asg (pe_op op_addA (pe_ix (k_ix (K := K)) (pv 0) pe_int (fun _ _ => rfl)) pe_int) (pg_sub (pv 0) pe_int set_list))
      (pss_cons (ps_if (pt_cmpR op_gtA (pe_ix (k_ix (K := K)) (pv 0) pe_int (fun _ _ => rfl)) (pe_callB (k_len (K := K)) (by rfl) T.len_ (by decide +kernel) (pa_cons (pe_ix (k_ix (K := K)) (pv 0) pe_int (fun _ _ => rfl)) pa_nil)) (nomark _)) (pss_cons (ps_asg (pe_op op_mod (pe_callTy call_int1 (by rfl) T.int_ (by decide +kernel) (pa_cons (pe_op op_addA (pe_op op_mul (pe_ix (k_ix (K := K)) (pv 0) pe_int (fun _ _ => rfl)) pe_int) pe_int) pa_nil)) pe_int) (pg_sub (pv 0) pe_int set_list))
      (pss_one (ps_ret (pe_op op_mod (pe_callTy call_int1 (by rfl) T.int_ (by decide +kernel) (pa_cons (pe_op op_fdivN (pe_ix (k_ix (K := K)) (pv 0) pe_int (fun _ _ => rfl)) pe_int) pa_nil)) (pv 1))))) pss_nil)
      (pss_cons (ps_set (i := 3) sc_law_taken.nd rfl (.inl rfl) (pe_ix (k_ix (K := K)) (pe_ix (k_ix (K := K)) (pv 0) pe_int (fun _ _ => rfl)) (pe_op op_subA (pe_ix (k_ix (K := K)) (pv 0) pe_int (fun _ _ => rfl)) pe_int) (fun _ _ => rfl)))
      (pss_cons (ps_asg (pe_op op_mod (pe_callTy call_int1 (by rfl) T.int_ (by decide +kernel) (pa_cons (pe_op op_addA (pe_op op_addA (pe_op op_mul (pe_ix (k_ix (K := K)) (pv 0) pe_int (fun _ _ => rfl)) pe_int) (pv 3)) pe_int) pa_nil)) pe_int) (pg_sub (pv 0) pe_int set_list))
      (pss_cons (ps_if (pt_cmpR op_geA (pv 3) (pe_op op_pow pe_int pe_int) (nomark _)) (pss_one (ps_asg (pe_op op_fdivN (pv 3) (pv 1)) (pg_sub (pv 0) pe_int set_list))) pss_nil)
      (pss_one (ps_ret (pe_op op_mod (pe_callTy call_int1 (by rfl) T.int_ (by decide +kernel) (pa_cons (pv 3) pa_nil)) (pv 1)))))))))), ?_⟩
    refine q_whenV ⟨_, vl_op (vl_row (j := 3) rfl hrow rfl) vl_c fun Q q => ⟨z, 0, rfl, rfl, q⟩⟩ ?_ ?_
    · refine q_setV (vl_mod (vl_int (vl_row (j := 3) rfl hrow rfl)) (vl_var rfl) (by omega)) ?_
      refine q_rowV (j := 3) (vl_div (vl_row (j := 3) rfl hrow rfl) (vl_var rfl) (by omega) (by omega)) rfl hrow (show _ < 4 by decide) ?_
      obtain ⟨mv, R'⟩ := R.set (i := i) (s := sd) (z := z.fdiv m) hi
      exact s_retV (vl_var rfl) (done z _ mv R')
    · refine q_rowV (j := 1) (vl_add (vl_row (j := 1) rfl hrow rfl) vl_c) rfl hrow (show _ < 4 by decide) ?_
      obtain ⟨mv1, R1⟩ := R.set (i := i + 1) (s := sd) (z := z) (by omega)
      have hrow1 : upd H r (.lst [.ref a, .int (i + 1), .int sd, .int z]) r = some (.lst [.ref a, .int (i + 1), .int sd, .int z]) := upd_same
      show tSeq _ _ _ _ (upd H r (.lst [.ref a, .int (i + 1), .int sd, .int z]))
      generalize upd H r (.lst [.ref a, .int (i + 1), .int sd, .int z]) = H1 at mv1 R1 hrow1
      have hscr : SqL K H1 a (scp.map V.int) := sqL_up R1.scr hide_le
      refine q_caseV (vl_op (vl_row (j := 1) rfl hrow1 rfl) (y := .int (scp.length : Int)) (fun Q q => vl_row (j := 0) (v := .ref a) rfl hrow1 rfl _ ⟨.ref a, scp.length, rfl, .inl ⟨_, hscr, by rw [List.length_map]⟩, q⟩) fun Q q => ⟨i + 1, (scp.length : Int), rfl, rfl, q⟩) (fun hb => ?_) fun hb => ?_
      · refine q_rowV (j := 2) (vl_mod (vl_int (vl_add (vl_mul (vl_row (j := 2) rfl hrow1 rfl)) vl_c)) vl_c (by decide)) rfl hrow1 (show _ < 4 by decide) ?_
        obtain ⟨mv2, R2⟩ := R1.set (i := i + 1) (s := (sd * 48271 + 11) % 2147483647) (z := z) (by omega)
        exact s_retV (vl_mod (vl_int (vl_div (vl_row (j := 2) rfl upd_same rfl) vl_c (by decide) (by decide))) (vl_var rfl) (by omega)) (done _ _ (mv1.trans mv2) R2)
      · have hle : i + 1 ≤ (scp.length : Int) := by
          have := of_decide_eq_false hb
          omega
        have hcell : (scp.map V.int)[i.toNat]? = some (.int (scp[i.toNat]'(by omega))) := by
          rw [List.getElem?_map, List.getElem?_eq_getElem (by omega)]
          rfl
        have hix : i + 1 - 1 = ((i.toNat : Nat) : Int) := by omega
        refine q_setV (v := .int (scp[i.toNat]'(by omega))) (vl_op (vl_row (j := 0) (v := .ref a) rfl hrow1 rfl) (vl_sub (vl_row (j := 1) rfl hrow1 rfl) vl_c) fun Q q => .inl ⟨a, _, i + 1 - 1, _, rfl, rfl, hscr, by rw [hix]; exact atI_nat hcell, q⟩) ?_
        generalize scp[i.toNat]'(by omega) = c
        refine q_rowV (j := 2) (vl_mod (vl_int (vl_add (vl_add (vl_mul (vl_row (j := 2) rfl hrow1 rfl)) (vl_var rfl)) vl_c)) vl_c (by decide)) rfl hrow1 (show _ < 4 by decide) ?_
        obtain ⟨mv2, R2⟩ := R1.set (i := i + 1) (s := (sd * 48271 + c + 11) % 2147483647) (z := z) (by omega)
        have hrow2 : upd H1 r (.lst [.ref a, .int (i + 1), .int ((sd * 48271 + c + 11) % 2147483647), .int z]) r = some (.lst [.ref a, .int (i + 1), .int ((sd * 48271 + c + 11) % 2147483647), .int z]) := upd_same
        show tSeq _ _ _ _ (upd H1 r (.lst [.ref a, .int (i + 1), .int ((sd * 48271 + c + 11) % 2147483647), .int z]))
        generalize upd H1 r (.lst [.ref a, .int (i + 1), .int ((sd * 48271 + c + 11) % 2147483647), .int z]) = H2 at mv2 R2 hrow2
        refine q_whenV ⟨_, vl_op (vl_var rfl) (y := .int (10 ^ 18)) (vl_op vl_c vl_c fun Q q => ⟨10, 18, rfl, rfl, ⟨by decide, by decide, by decide⟩, q⟩) fun Q q => ⟨c, 10 ^ 18, rfl, rfl, q⟩⟩ ?_ ?_
        · refine s_rowV (j := 3) (vl_div (vl_var rfl) (vl_var rfl) (by omega) (by omega)) rfl hrow2 (show _ < 4 by decide) ?_
          obtain ⟨mv3, R3⟩ := R2.set (i := i + 1) (s := (sd * 48271 + c + 11) % 2147483647) (z := c.fdiv m) (by omega)
          exact s_retV (vl_mod (vl_int (vl_var rfl)) (vl_var rfl) (by omega)) (done c _ ((mv1.trans mv2).trans mv3) R3)
        · exact s_retV (vl_mod (vl_int (vl_var rfl)) (vl_var rfl) (by omega)) (done c _ (mv1.trans mv2) R2)
/-- law_pick: of a list, or of the text "#." -/
def RPick : List PyData → (PyData → Prop) → Prop := fun ds C => (∃ l : List PyData, 1 ≤ l.length ∧ l.length ≤ 1000 ∧ ds = [.list l] ∧ C = (· ∈ l)) ∨ (ds = [.str "#."] ∧ C = fun d => ∃ b, d = .str (sgn b))
theorem ok_law_pick (T : Tx mg) (h : At K mg "_law_pick" s_law_pick ["_law_row", "_law_things"]) (c_law_taken : Prom P w K mg base "_law_taken" ["_law_row", "_law_many"] 1 (SpD K RTaken)) : Prom P w K mg base "_law_pick" ["_law_row", "_law_things"] 2 (SpD K RPick) := by
  refine prom_D h sc_law_pick (fun ds C hR => by rcases hR with ⟨_, _, _, rfl, _⟩ | ⟨rfl, _⟩ <;> rfl) fun f cdv A outer s H us Q E S r a scp ds C hr Tr1 R hv hR q => ?_
  rcases hR with ⟨l, l1, l2, rfl, rfl⟩ | ⟨rfl, rfl⟩
  · cases hv with
    | @cons v1 _ _ _ h1 t =>
      cases t
      refine ⟨_, (pss_one (ps_ret (pe_ix (k_ix (K := K)) (pv 1) (pe_callP c_law_taken (hr.mono (by decide)) (by rfl) (pa_cons (pv 0) (pa_cons (pe_callB (k_len (K := K)) (by rfl) T.len_ (by decide +kernel) (pa_cons (pv 1) pa_nil)) pa_nil))) (fun _ _ => rfl)))), ?_⟩
      refine s_retDD Tr1 R (Ex.refl _) (denD_op (C1 := fun d => d = .list l) (C2 := below l.length) (Den.dd (den_var rfl h1)) (denD_call rfl (denAD_cons (Den.dd (den_cb (dena_cons (den_var rfl h1) dena_nil) rc_lenL)) denAD_nil) fun ds hc => ?_) fun x y hx hy => ?_) q
      · obtain ⟨d, t, rfl, rfl, rfl⟩ := hc
        exact ⟨l.length, l1, l2, rfl, rfl⟩
      · obtain ⟨k, hk, rfl⟩ := hy
        subst hx
        exact ⟨l[k], rd_ixL (List.getElem?_eq_getElem hk), List.getElem_mem hk⟩
  · cases hv with
    | @cons v1 _ _ _ h1 t =>
      cases t
      refine ⟨_, (pss_one (ps_ret (pe_ix (k_ix (K := K)) (pv 1) (pe_callP c_law_taken (hr.mono (by decide)) (by rfl) (pa_cons (pv 0) (pa_cons (pe_callB (k_len (K := K)) (by rfl) T.len_ (by decide +kernel) (pa_cons (pv 1) pa_nil)) pa_nil))) (fun _ _ => rfl)))), ?_⟩
      refine s_retDD Tr1 R (Ex.refl _) (denD_op (C1 := fun d => d = .str "#.") (C2 := below 2) (Den.dd (den_var rfl h1)) (denD_call rfl (denAD_cons (Den.dd (den_cb (dena_cons (den_var rfl h1) dena_nil) (rc_lenS (by decide +kernel)))) denAD_nil) fun ds hc => ?_) fun x y hx hy => ?_) q
      · obtain ⟨d, t, rfl, rfl, rfl⟩ := hc
        exact ⟨2, by decide, by decide, rfl, rfl⟩
      · obtain ⟨k, hk, rfl⟩ := hy
        subst hx
        have : k = 0 ∨ k = 1 := by omega
        rcases this with rfl | rfl
        · exact ⟨_, rd_ixS (c := 35) (by decide +kernel) (by decide +kernel), true, congrArg PyData.str (sgn_code true)⟩
        · exact ⟨_, rd_ixS (c := 46) (by decide +kernel) (by decide +kernel), false, congrArg PyData.str (sgn_code false)⟩
end
end LPW

/-! ## LpL2 -/
/-! law_paint, law_painted, law_mixed, law_any, law_deeds, law_picture. -/
namespace LPW
open PySem PySem.Spec PyProof.Rows L2 Evl

/-! ### rows, sign by sign -/
theorem str_app (a b : Str) : a ++ b = (⟨a.cps ++ b.cps⟩ : Str) := rfl
theorem rowS_snoc (j : Nat) (f : Nat → Bool) : rowS j f ++ sgn (f j) = rowS (j + 1) f := by
  rw [← sgn_code, str_app]
  unfold rowS
  rw [List.range_succ, List.map_append]
  simp
theorem rowS_congr {j : Nat} {f g : Nat → Bool} (h : ∀ i, i < j → f i = g i) : rowS j f = rowS j g := by
  unfold rowS
  rw [List.map_congr_left fun i hi => by rw [h i (List.mem_range.mp hi)]]
theorem rowS_put (j : Nat) (f : Nat → Bool) (b : Bool) : rowS j f ++ sgn b = rowS (j + 1) fun i => if i < j then f i else b := by
  rw [← rowS_snoc j (fun i => if i < j then f i else b), if_neg (Nat.lt_irrefl _)]
  congr 1
  exact rowS_congr fun i hi => (if_pos hi).symm
theorem rowS_nil (f : Nat → Bool) : rowS 0 f = "" := rfl
def isRow (w : Nat) : PyData → Prop := fun d => ∃ f, d = .str (rowS w f)
theorem rows_pic (w : Nat) : ∀ ds : List PyData, (∀ d ∈ ds, isRow w d) → ∃ c : LP.Pic, ds = (List.range ds.length).map fun i => .str (rowS w (c i))
  | [], _ => ⟨fun _ _ => false, rfl⟩
  | d :: ds, h => by
    obtain ⟨f, rfl⟩ := h d List.mem_cons_self
    obtain ⟨c, hc⟩ := rows_pic w ds fun x hx => h x (List.mem_cons_of_mem _ hx)
    refine ⟨fun i => match i with | 0 => f | i + 1 => c i, ?_⟩
    rw [List.length_cons, List.range_succ_eq_map, List.map_cons, List.map_map]
    conv => lhs; rw [hc]
    rfl
theorem pic_of_rows {h w : Nat} {ds : List PyData} (hl : ds.length = h) (hr : ∀ d ∈ ds, isRow w d) : ∃ c, PyData.tuple ds = picD h w c := by
  obtain ⟨c, hc⟩ := rows_pic w ds hr
  refine ⟨c, ?_⟩
  rw [hl] at hc
  unfold picD
  rw [← hc]
theorem join_signs : ∀ (l : List Bool), Str.join "" (l.map sgn) = rowS l.length (fun i => l.getD i false) := by
  have key : ∀ (l : List Bool), (Str.join "" (l.map sgn)).cps.toList = l.map code := by
    intro l
    induction l with
    | nil => rfl
    | cons b l ih =>
      cases l with
      | nil => cases b <;> rfl
      | cons b2 l =>
        show ((sgn b ++ "" ++ Str.join "" ((b2 :: l).map sgn)).cps).toList = _
        rw [str_app, str_app, Array.toList_append, Array.toList_append, ih]
        cases b <;> rfl
  intro l
  have : (Str.join "" (l.map sgn)).cps = (rowS l.length fun i => l.getD i false).cps := by
    apply Array.toList_inj.mp
    rw [key l]
    show _ = (List.range l.length).map fun j => code (l.getD j false)
    refine List.ext_getElem (by simp) fun i h1 h2 => ?_
    rw [List.length_map] at h1
    simp [List.getD_eq_getElem?_getD, List.getElem?_eq_getElem h1]
  cases h1 : Str.join "" (l.map sgn) with
  | mk a =>
    cases h2 : rowS l.length (fun i => l.getD i false) with
    | mk b =>
      rw [h1, h2] at this
      exact congrArg Str.mk this

section
variable {P : Program} {w : World} {K : PySem.W.Frag} {mg : Str → Option Value} {base : Heap}
/-! ### law_paint, law_painted -/
def paintP (h : Nat) (line : Int) (c : LP.Pic) : LP.Pic := fun i j => if line = (i : Int) then true else if line = ((h + j : Nat) : Int) then false else c i j
def RPaint : List PyData → PyData → Prop := fun ds d => ∃ h wd c line, PicOk h wd ∧ ds = [picD h wd c, .int line] ∧ d = picD h wd (paintP h line c)
theorem ok_law_paint (T : Tx mg) (h : At K mg "_law_paint" s_law_paint ["_law_picture_here", "_law_line"]) : Prom P w K mg base "_law_paint" ["_law_picture_here", "_law_line"] 1 (SpR RPaint) := by
  refine prom_R h sc_law_paint (fun ds d hR => by obtain ⟨_, _, _, _, _, rfl, _⟩ := hR; rfl) fun f cdv A outer s H vs Q E S ds d hr Tr1 hv hR q => ?_
  obtain ⟨hh, wd, c, line, k, rfl, rfl⟩ := hR
  obtain ⟨k1, k2, k3, k4⟩ := id k
  cases hv with
  | @cons v1 _ _ _ h1 t =>
   cases t with
   | @cons v2 _ _ _ h2 t =>
    cases t
    cases h2
    refine ⟨_, (pss_cons (ps_set (i := 2) sc_law_paint.nd rfl (.inl rfl) (pe_lst pa_nil))
      (pss_cons (ps_for PassesOwn.never rfl (pi_range1 (by rfl) T.range_ (pa_cons (pe_callB (k_len (K := K)) (by rfl) T.len_ (by decide +kernel) (pa_cons (pv 0) pa_nil)) pa_nil)) (pg_name (i := 3) sc_law_paint.nd rfl (.inl rfl)) (pss_cons (ps_set (i := 4) sc_law_paint.nd rfl (.inl rfl) pe_str)
      (pss_cons (ps_for PassesOwn.never rfl (pi_range1 (by rfl) T.range_ (pa_cons (pe_callB (k_len (K := K)) (by rfl) T.len_ (by decide +kernel) (pa_cons (pe_ix (k_ix (K := K)) (pv 0) pe_int (fun _ _ => rfl)) pa_nil)) pa_nil)) (pg_name (i := 5) sc_law_paint.nd rfl (.inl rfl)) (pss_one (ps_set (i := 4) sc_law_paint.nd rfl (.inl rfl) (pe_op op_addA (pv 4) (pe_ifExp (pt_cmpR (k_eq (K := K) hr.units) (pv 1) (pv 3) (nomark _)) pe_str (pe_ifExp (pt_cmpR (k_eq (K := K) hr.units) (pv 1) (pe_op op_addA (pe_callB (k_len (K := K)) (by rfl) T.len_ (by decide +kernel) (pa_cons (pv 0) pa_nil)) (pv 5)) (nomark _)) pe_str (pe_ix (k_ix (K := K)) (pe_ix (k_ix (K := K)) (pv 0) (pv 3) (fun _ _ => rfl)) (pv 5) (fun _ _ => rfl))))))))
      (pss_one (ps_expr (pe_bm PySem.F.plainAttrs_list PySem.F.slot_list_append PySem.F.type_list_append mt_append (pv 2) (pa_cons (pv 4) pa_nil)))))))
      (pss_one (ps_ret (pe_callTy (k_tup (K := K)) (by rfl) T.tuple_ (by decide +kernel) (pa_cons (pv 2) pa_nil)))))), ?_⟩
    refine q_new fun L hL => ?_
    have nL : L ∉ S := Tr1.not hL
    have T1 : Tr (L :: S) (upd H L (.lst [])) := (Tr1.up (Ex.new hL)).cons upd_same
    have o1 : Ex (hide S H) (hide (L :: S) (upd H L (.lst []))) := hide_open hL (Ex.new hL)
    have g1 := h1.up o1
    refine q_forD (List.range hh) (fun (i : Nat) => PyData.int (i : Int)) T1 (Ex.refl _) (it_range (dena_cons (den_len_pic (den_var rfl g1)) dena_nil) (by omega)) fun H2 e2 => ?_
    refine ⟨fun i σ' H' => ∃ (y3 y4 y5 : Option V) (acc : List V), σ' = [some v1, some (.int line), some (.ref L), y3, y4, y5] ∧ Ex H H' ∧ Ex (hide (L :: S) H2) (hide (L :: S) H') ∧ H' L = some (.lst acc) ∧ acc.length ≤ i ∧
      DnAll (hide (L :: S) H') acc (((List.range hh).take i).map fun i => .str (rowS wd (paintP hh line c i))),
      ⟨none, none, none, [], rfl, (Ex.new hL).trans e2, Ex.refl _, e2 L _ upd_same, Nat.le_refl _, .nil⟩, fun _ _ _ ⟨_, _, _, _, _, _, e, _⟩ => e.trans hide_le, ?_, ?_⟩
    · rintro i a σ' H' v H'' hg ⟨y3, y4, y5, acc, rfl, eH, eB, hacc, hlen, hd⟩ e4 hv
      have hai : a = i ∧ i < hh := by
        obtain ⟨h1, h2⟩ := List.getElem?_eq_some_iff.mp hg
        rw [List.length_range] at h1
        rw [List.getElem_range] at h2
        exact ⟨h2.symm, h1⟩
      obtain ⟨rfl, hi⟩ := hai
      have T2 : Tr (L :: S) H' := (Tr1.up eH).cons hacc
      have T4 := T2.up e4
      have g4 : Dn (hide (L :: S) H'') v1 (picD hh wd c) := ((g1.up (hide_up e2)).up eB).up (hide_up e4)
      refine asg_name (L :: S) H'' v T4 (hv (L :: S) T2 eB) _ fun σ2 ⟨x, hx, ex⟩ => ?_
      subst ex
      cases hx
      refine q_setD T4 (Ex.refl _) den_str fun x H5 e5 hx => ?_
      cases hx
      have g5 := g4.up (hide_up e5)
      refine q_forD (List.range wd) (fun (j : Nat) => PyData.int (j : Int)) (T4.up e5) (Ex.refl _) (it_range (dena_cons (den_len_row (den_row0 (den_var rfl g5) k1) k4) dena_nil) (by omega)) fun H6 e6 => ?_
      have e46 := (e4.trans e5).trans e6
      refine ⟨fun j σ' H' => ∃ y5 : Option V, σ' = [some v1, some (.int line), some (.ref L), some (.int (a : Int)), some (.str (rowS j (paintP hh line c a))), y5] ∧ Ex H6 H', ⟨y5, rfl, Ex.refl _⟩, fun _ _ _ ⟨_, _, e⟩ => hide_le.trans e, ?_, ?_⟩
      · rintro j b σ' H7 v H8 hgb ⟨z5, rfl, e7⟩ e8 hv8
        have hbj : b = j ∧ j < wd := by
          obtain ⟨h1, h2⟩ := List.getElem?_eq_some_iff.mp hgb
          rw [List.length_range] at h1
          rw [List.getElem_range] at h2
          exact ⟨h2.symm, h1⟩
        obtain ⟨rfl, hb⟩ := hbj
        have e68 := e6.trans (e7.trans e8)
        have T8 := (T4.up e5).up e68
        refine asg_name (L :: S) H8 v T8 (hv8 (L :: S) ((T4.up e5).up (e6.trans e7)) (hide_up e7)) _ fun σ2 ⟨x, hx, ex⟩ => ?_
        subst ex
        cases hx
        have g8 := g5.up (hide_up (S := L :: S) e68)
        have key : Den (tIf (tTest (tOp (rEqA K) (tVar 1) (tVar 3))) (tC (.str "#")) (tIf (tTest (tOp (rEqA K) (tVar 1) (tOp rAddA (tCB (rLenA K) (tCons (tVar 0) tNil)) (tVar 5)))) (tC (.str ".")) (tOp (rIx K) (tOp (rIx K) (tVar 0) (tVar 3)) (tVar 5)))) [some v1, some (.int line), some (.ref L), some (.int (a : Int)), some (.str (rowS b (paintP hh line c a))), some (.int (b : Int))] (hide (L :: S) H8) (.str (sgn (paintP hh line c a b))) := by
          unfold paintP
          refine den_if (tst_test (den_op (den_var rfl (.int _)) (den_var rfl (.int _)) rd_eqI)) (fun hb1 => ?_) fun hb1 => den_if (tst_test (den_op (den_var rfl (.int _)) (Den.to (d' := PyData.int ((hh + b : Nat) : Int)) (den_op (den_len_pic (den_var rfl g8)) (den_var rfl (.int _)) rd_addI) (by rw [Int.natCast_add])) rd_eqI)) (fun hb2 => ?_) fun hb2 => ?_
          · rw [if_pos (of_decide_eq_true hb1)]
            exact den_str
          · rw [if_neg (of_decide_eq_false hb1), if_pos (of_decide_eq_true hb2)]
            exact den_str
          · rw [if_neg (of_decide_eq_false hb1), if_neg (of_decide_eq_false hb2)]
            exact den_sign (den_row (den_var rfl g8) (den_var rfl (.int _)) hi) (den_var rfl (.int _)) k4 hb
        refine s_setD T8 (Ex.refl _) (den_op (den_var rfl (.str _)) key (rd_addS ?_)) fun x H9 e9 hx => ?_
        · show (rowS b _).length + (sgn _).length ≤ sizeLine
          rw [rowS_len, show (sgn (paintP hh line c a b)).length = 1 by cases (paintP hh line c a b) <;> rfl, sizeLine_eq]
          omega
        · cases hx
          rw [rowS_snoc]
          exact ⟨_, rfl, (e7.trans e8).trans e9⟩
      · rintro σ' H7 ⟨z5, rfl, e7⟩
        rw [List.length_range]
        have e47 := e46.trans e7
        refine s_appD (T2.up e47) (Ex.refl _) rfl (e47 L _ hacc) (by omega) (den_var rfl (.str _)) fun z H8 e8 hz => ?_
        have e48 := e47.trans e8
        refine ⟨_, _, _, acc ++ [z], rfl, Ex.mut (eH.trans e48) hL, ?_, upd_same, ?_, ?_⟩
        · rw [hide_upd]
          exact eB.trans (hide_up e48)
        · rw [List.length_append, List.length_singleton]
          omega
        · rw [hide_upd, List.take_add_one, hg, List.map_append]
          exact DnAll.snoc (hd.up (hide_up e48)) hz
    · rintro σ' H' ⟨y3, y4, y5, acc, rfl, eH, eB, hacc, hlen, hd⟩
      rw [List.take_length] at hd
      exact s_retD (Tr1.up eH) (Ex.refl _) (den_cb (dena_cons (den_var rfl (hide_list nL hacc hd)) dena_nil) rc_tupL) fun v5 H5 e5 hv5 => q v5 H5 (eH.trans e5) hv5
def paintedP (h : Nat) (ns : List Int) (c : LP.Pic) : LP.Pic := ns.foldl (fun c l => paintP h l c) c
def RPainted : List PyData → PyData → Prop := fun ds d => ∃ h wd c ns, PicOk h wd ∧ ns.length ≤ 1000 ∧ ds = [picD h wd c, .list (ns.map .int)] ∧ d = picD h wd (paintedP h ns c)
theorem ok_law_painted (T : Tx mg) (h : At K mg "_law_painted" s_law_painted ["_law_picture_here", "_law_deeds_here"]) (c_law_paint : Prom P w K mg base "_law_paint" ["_law_picture_here", "_law_line"] 1 (SpR RPaint)) :
    Prom P w K mg base "_law_painted" ["_law_picture_here", "_law_deeds_here"] 2 (SpR RPainted) := by
  refine prom_R h sc_law_painted (fun ds d hR => by obtain ⟨_, _, _, _, _, _, rfl, _⟩ := hR; rfl) fun f cdv A outer s H vs Q E S ds d hr Tr1 hv hR q => ?_
  obtain ⟨hh, wd, c, ns, k, hn, rfl, rfl⟩ := hR
  cases hv with
  | @cons v1 _ _ _ h1 t =>
   cases t with
   | @cons v2 _ _ _ h2 t =>
    cases t
    refine ⟨_, (pss_cons (ps_for PassesOwn.never rfl (pi_seqK (K := K) (pv 1)) (pg_name (i := 2) sc_law_painted.nd rfl (.inl rfl)) (pss_one (ps_set (i := 0) sc_law_painted.nd rfl (.inl rfl) (pe_callP c_law_paint (hr.mono (by decide)) (by rfl) (pa_cons (pv 0) (pa_cons (pv 2) pa_nil))))))
      (pss_one (ps_ret (pv 0)))), ?_⟩
    refine q_forD ns PyData.int Tr1 (Ex.refl _) (it_list (den_var rfl h2)) fun H2 e2 => ?_
    refine ⟨fun i σ' H' => ∃ (x : V) (y : Option V), σ' = [some x, some v2, y] ∧ Ex H2 H' ∧ Dn (hide S H') x (picD hh wd (paintedP hh (ns.take i) c)), ⟨v1, none, rfl, Ex.refl _, h1.up (hide_up e2)⟩, fun _ _ _ ⟨_, _, _, e, _⟩ => hide_le.trans e, ?_, ?_⟩
    · rintro i a σ' H' v H'' hg ⟨x, y, rfl, e3, hx⟩ e4 hv
      have T3 := Tr1.up (e2.trans e3)
      refine asg_name S H'' v (T3.up e4) (hv S T3 (hide_up e3)) _ fun σ2 ⟨z, hz, ez⟩ => ?_
      subst ez
      refine s_setD (T3.up e4) (Ex.refl _) (den_call (dena_cons (den_var rfl (hx.up (hide_up e4))) (dena_cons (den_var rfl hz) dena_nil)) ⟨hh, wd, paintedP hh (ns.take i) c, a, k, rfl, rfl⟩) fun u H5 e5 hu => ?_
      refine ⟨u, some z, rfl, (e3.trans e4).trans e5, ?_⟩
      have : paintedP hh (ns.take (i + 1)) c = paintP hh a (paintedP hh (ns.take i) c) := by
        unfold paintedP
        rw [List.take_add_one, hg, List.foldl_append]
        rfl
      rw [this]
      exact hu
    · rintro σ' H' ⟨x, y, rfl, e3, hx⟩
      rw [List.take_length] at hx
      exact ⟨x, rfl, q x H' (e2.trans e3) hx⟩

/-! ### law_deeds -/
def isInts : PyData → Prop := fun d => ∃ ns : List Int, ns.length ≤ 1000 ∧ d = .list (ns.map .int)
theorem ints_of : ∀ ds : List PyData, (∀ d ∈ ds, ∃ n : Int, d = .int n) → ∃ ns : List Int, ds = ns.map .int
  | [], _ => ⟨[], rfl⟩
  | d :: ds, h => by
    obtain ⟨n, rfl⟩ := h d List.mem_cons_self
    obtain ⟨ns, e⟩ := ints_of ds fun x hx => h x (List.mem_cons_of_mem _ hx)
    exact ⟨n :: ns, by rw [e]; rfl⟩
theorem below_int {m : Nat} {d : PyData} (h : below m d) : ∃ n : Int, d = .int n := by
  obtain ⟨k, _, rfl⟩ := h
  exact ⟨_, rfl⟩
def RDeeds : List PyData → (PyData → Prop) → Prop := fun ds C => ∃ h wd c, ∃ m : Nat, PicOk h wd ∧ m ≤ 100 ∧ ds = [picD h wd c, .int (m : Int)] ∧ C = isInts
theorem ok_law_deeds (T : Tx mg) (h : At K mg "_law_deeds" s_law_deeds ["_law_row", "_law_picture_here", "_law_most"]) (c_law_taken : Prom P w K mg base "_law_taken" ["_law_row", "_law_many"] 1 (SpD K RTaken)) :
    Prom P w K mg base "_law_deeds" ["_law_row", "_law_picture_here", "_law_most"] 2 (SpD K RDeeds) := by
  refine prom_D h sc_law_deeds (fun ds C hR => by obtain ⟨_, _, _, _, _, _, rfl, _⟩ := hR; rfl) fun f cdv A outer s H us Q E S r a scp ds C hr Tr1 R hv hR q => ?_
  obtain ⟨hh, wd, c, m, k, hm, rfl, rfl⟩ := hR
  obtain ⟨k1, k2, k3, k4⟩ := id k
  cases hv with
  | @cons v1 _ _ _ h1 t =>
   cases t with
   | @cons v2 _ _ _ h2 t =>
    cases t
    cases h2
    refine ⟨_, (pss_one (ps_ret (pe_lc (own := [("_law_turn", 3)])  rfl sc_law_deeds.nd (pi_range1 (by rfl) T.range_ (pa_cons (pe_callP c_law_taken (hr.mono (by decide)) (by rfl) (pa_cons (pv 0) (pa_cons (pe_op op_addA (pv 2) pe_int) pa_nil))) pa_nil)) (blkOk_by (N := n_law_deeds) (sc := defScope s_law_deeds) (by decide +kernel)) (fun _ _ _ _ _ => (pg_name (i := 3) sc_law_deeds.nd rfl (.inl rfl))) (fun _ _ _ _ _ => pts_nil) (fun _ _ _ _ _ => (pe_callP c_law_taken (hr.mono (by decide)) (by rfl) (pa_cons (pv 0) (pa_cons (pe_op op_addA (pe_callB (k_len (K := K)) (by rfl) T.len_ (by decide +kernel) (pa_cons (pv 1) pa_nil)) (pe_callB (k_len (K := K)) (by rfl) T.len_ (by decide +kernel) (pa_cons (pe_ix (k_ix (K := K)) (pv 1) pe_int (fun _ _ => rfl)) pa_nil))) pa_nil))))))), ?_⟩
    -- the range's draw comes first
    have first : DenD K r a scp (tCall (SpD K RTaken) [] E0 (tCons (tVar 0) (tCons (tOp rAddA (tVar 2) (tC (.int 1))) tNil))) [some (.ref r), some v1, some (.int (m : Int)), none] (hide S H) (below (m + 1)) :=
      denD_call rfl (denAD_cons (Den.dd (den_op (den_var rfl (.int _)) den_int rd_addI)) denAD_nil) fun ds hc => by
        obtain ⟨d, t, rfl, rfl, rfl⟩ := hc
        exact ⟨m + 1, by omega, by omega, by rw [Int.natCast_add]; rfl, rfl⟩
    refine first S H Tr1 R (Ex.refl _) _ fun x dx H1 m1 R1 hx ⟨n, hn, ex⟩ => ?_
    subst ex
    cases hx
    have T1 := Tr1.mv m1 R1
    have g1 := h1.up (m1.ex R1.mem)
    exact (denD_lc (te := tCall (SpD K RTaken) [] E0 (tCons (tVar 0) (tCons (tOp rAddA (tCB (rLenA K) (tCons (tVar 1) tNil)) (tCB (rLenA K) (tCons (tOp (rIx K) (tVar 1) (tC (.int 0))) tNil))) tNil))) (g := gName 3) (vs := [3]) (C0 := below (hh + wd)) (List.range n) (fun (i : Nat) => PyData.int (i : Int)) _ (it_range (dena_cons (den_int (i := (n : Int))) dena_nil) (by omega)) (by rw [List.length_range]; omega) (fun _ _ => asg_name) fun i hi B1 σ1 eB ⟨y, hy, ey⟩ => by
      subst ey
      refine ⟨rfl, denD_call rfl (denAD_cons (Den.dd (den_op (den_len_pic (den_var rfl (g1.up eB))) (den_len_row (den_row0 (den_var rfl (g1.up eB)) k1) k4) rd_addI)) denAD_nil) fun ds hc => ?_⟩
      obtain ⟨d, t, rfl, rfl, rfl⟩ := hc
      exact ⟨hh + wd, by omega, by omega, by rw [Int.natCast_add], rfl⟩) S H1 T1 R1 (Ex.refl _) _ fun v d H2 m2 R2 hv ⟨ds, ed, hl, hC⟩ => by
        subst ed
        obtain ⟨ns, rfl⟩ := ints_of ds fun d hd => below_int (hC d hd)
        refine q v _ H2 (m1.trans m2) R2 hv ⟨ns, ?_, rfl⟩
        rw [List.length_map, List.length_range] at hl
        omega
end
end LPW

/-! ## LpL3 -/
/-! law_mixed, law_any, law_picture. -/
namespace LPW
open PySem PySem.Spec PyProof.Rows L2 Evl

theorem Row.via {K : PySem.W.Frag} {S S' : List Addr} {H H' : Hp} {r a : Addr} {scp : List Int} (R : Row K S H r a scp) (m : Mv r H H') (R' : Row K S' H' r a scp) : Row K S H' r a scp := ⟨R.mem, sqL_up R.scr (m.ex R.mem), R.len, R'.at_⟩
theorem DnAll.erase {H : Hp} {vs : List V} {ds : List PyData} (h : DnAll H vs ds) (k : Nat) : DnAll H (vs.eraseIdx k) (ds.eraseIdx k) := by
  rw [List.eraseIdx_eq_take_drop_succ, List.eraseIdx_eq_take_drop_succ]
  exact (h.take k).app (h.drop (k + 1))
theorem erase_perm {α : Type} {l : List α} {k : Nat} (h : k < l.length) : l.Perm (l[k] :: l.eraseIdx k) := by
  rw [List.eraseIdx_eq_take_drop_succ]
  conv => lhs; rw [← List.take_append_drop k l, List.drop_eq_getElem_cons h]
  exact List.perm_middle
section
variable {K : PySem.W.Frag} {σ : L2.St} {B H : Hp} {S : List Addr} {r a : Addr} {scp : List Int} {te : TE} {tu tz : TS} {D : Ends} {g : TG} {v : V} {E : XK}
theorem q_parCopy {i j k : Nat} {b : Addr} {vs : List V} (hb : σ[k]? = some (some (.ref b))) (hv : H b = some (.lst vs)) (c : ∀ p L, H p = none → upd H p (.lst vs) L = none → tz D ((σ.set i (some (.ref p))).set j (some (.ref L))) (upd (upd H p (.lst vs)) L (.lst []))) :
    tSeq (tPar i j (tCons (tCB (rListA K) (tCons (tVar k) tNil)) (tCons (tLst tNil) tNil))) tz D σ H :=
  ⟨.ref b, hb, b, vs, rfl, .inl (.inl (.inl hv)), fun p hp => ⟨Nat.zero_le _, fun L hL => ⟨.ref p, .ref L, rfl, c p L hp hL⟩⟩⟩
theorem q_for1 (h : VL te σ H v) (k : tSeq (tFor (iRng1 (tCons (tC v) tNil)) g tu) tz D σ H) : tSeq (tFor (iRng1 (tCons te tNil)) g tu) tz D σ H := h _ k
theorem vl_lenL {k : Nat} {p : Addr} {vs : List V} (h : σ[k]? = some (some (.ref p))) (hp : H p = some (.lst vs)) : VL (tCB (rLenA K) (tCons (tVar k) tNil)) σ H (.int (vs.length : Nat)) := fun Q q =>
  ⟨.ref p, h, .ref p, vs.length, rfl, .inl ⟨vs, .inl (.inl hp), rfl⟩, q⟩
theorem run_taken {m : Nat} {Q : VK} (T : Tr S H) (R : Row K S H r a scp) (h0 : σ[0]? = some (some (.ref r))) (ht : VL te σ H (.int (m : Int))) (m1 : 1 ≤ m) (m2 : m ≤ 1000) (q : ∀ (k : Nat) H1, k < m → Mv r H H1 → Row K S H1 r a scp → Q (.int (k : Int)) H1) :
    tCall (SpD K RTaken) [] E (tCons (tVar 0) (tCons te tNil)) σ H Q :=
  ⟨.ref r, h0, ht _ ⟨S, r, a, scp, [.int (m : Int)], [.int (m : Int)], below m, rfl, T, R, .cons (.int _) .nil, ⟨m, m1, m2, rfl, rfl⟩, fun v d H' mv R' hv ⟨k, hk, e⟩ => by
    subst e
    cases hv
    exact q k H' hk mv R'⟩⟩
end
section
variable {P : Program} {w : World} {K : PySem.W.Frag} {mg : Str → Option Value} {base : Heap}
/-! ### law_mixed -/
def RMixed : List PyData → (PyData → Prop) → Prop := fun ds C => ∃ l : List PyData, l.length ≤ 1000 ∧ ds = [.list l] ∧ C = fun d => ∃ l', d = .list l' ∧ l'.Perm l
theorem ok_law_mixed (T : Tx mg) (h : At K mg "_law_mixed" s_law_mixed ["_law_row", "_law_some"]) (c_law_taken : Prom P w K mg base "_law_taken" ["_law_row", "_law_many"] 1 (SpD K RTaken)) :
    Prom P w K mg base "_law_mixed" ["_law_row", "_law_some"] 2 (SpD K RMixed) := by
  refine prom_D h sc_law_mixed (fun ds C hR => by obtain ⟨_, _, rfl, _⟩ := hR; rfl) fun f cdv A outer s H us Q E S r a scp ds C hr Tr1 R hv hR q => ?_
  obtain ⟨l, hl, rfl, rfl⟩ := hR
  cases hv with
  | @cons v1 _ _ _ h1 t =>
    cases t
    cases h1 with
    | @lst b vs _ hb hvs =>
      refine ⟨_, (pss_cons (ps_par (i := 2) (j := 3) rfl sc_law_mixed.nd rfl rfl (by decide) rfl rfl (pa_cons (pe_callTy (k_list (K := K)) (by rfl) T.list_ (by decide +kernel) (pa_cons (pv 1) pa_nil)) (pa_cons (pe_lst pa_nil) pa_nil)) (by rfl))
      (pss_cons (ps_for PassesOwn.never rfl (pi_range1 (by rfl) T.range_ (pa_cons (pe_callB (k_len (K := K)) (by rfl) T.len_ (by decide +kernel) (pa_cons (pv 2) pa_nil)) pa_nil)) (pg_name (i := 4) sc_law_mixed.nd rfl (.inl rfl)) (pss_one (ps_expr (pe_bm PySem.F.plainAttrs_list PySem.F.slot_list_append PySem.F.type_list_append mt_append (pv 3) (pa_cons (pe_bm PySem.F.plainAttrs_list PySem.F.slot_list_pop PySem.F.type_list_pop mt_popAt (pv 2) (pa_cons (pe_callP c_law_taken (hr.mono (by decide)) (by rfl) (pa_cons (pv 0) (pa_cons (pe_callB (k_len (K := K)) (by rfl) T.len_ (by decide +kernel) (pa_cons (pv 2) pa_nil)) pa_nil))) pa_nil)) pa_nil)))))
      (pss_one (ps_ret (pv 3))))), ?_⟩
      refine q_parCopy rfl (hide_le b _ hb) fun p L hp hL => ?_
      have hLH : H L = none := fresh_back (Ex.new hp) hL
      have npL : p ≠ L := fun z => by
        rw [← z, upd_same] at hL
        cases hL
      have np : p ≠ r := R.ne hp
      have nL : L ≠ r := R.ne hLH
      have R1 : Row K (p :: S) (upd H p (.lst vs)) r a scp := R.new hp
      have R2 : Row K (L :: p :: S) (upd (upd H p (.lst vs)) L (.lst [])) r a scp := R1.new hL
      have T1 : Tr (p :: S) (upd H p (.lst vs)) := (Tr1.up (Ex.new hp)).cons upd_same
      have T2 : Tr (L :: p :: S) (upd (upd H p (.lst vs)) L (.lst [])) := (T1.up (Ex.new hL)).cons upd_same
      have o1 : Ex (hide S H) (hide (p :: S) (upd H p (.lst vs))) := hide_open hp (Ex.new hp)
      have o2 : Ex (hide (p :: S) (upd H p (.lst vs))) (hide (L :: p :: S) (upd (upd H p (.lst vs)) L (.lst []))) := hide_open hL (Ex.new hL)
      have hpL : upd (upd H p (.lst vs)) L (.lst []) p = some (.lst vs) := by rw [upd_ne npL, upd_same]
      have hlv : vs.length = l.length := hvs.len
      have hm0 : Mv r H (upd (upd H p (.lst vs)) L (.lst [])) := mv_of ((Ex.new hp).trans (Ex.new hL))
      have hd0 := hvs.up (o1.trans o2)
      have hL0 : upd (upd H p (.lst vs)) L (.lst []) L = some (.lst []) := upd_same
      generalize upd (upd H p (.lst vs)) L (.lst []) = H0 at R2 T2 hpL hm0 hd0 hL0
      have pS : p ∉ S := Tr1.not hp
      have LS : L ∉ S := Tr1.not hLH
      have Trd : ∀ H' vs' fs, Mv r H H' → Row K (L :: p :: S) H' r a scp → H' p = some (.lst vs') → H' L = some (.lst fs) → Tr (L :: p :: S) H' := fun H' vs' fs m R h1 h2 c hc => by
        rcases List.mem_cons.mp hc with z | hc
        · rw [z]
          exact ⟨_, h2, fun _ z => by cases z⟩
        · rcases List.mem_cons.mp hc with z | hc
          · rw [z]
            exact ⟨_, h1, fun _ z => by cases z⟩
          · exact Tr1.mv m ((R.pop nL).pop np) c hc
      refine q_for1 (vl_lenL rfl hpL) ?_
      refine q_forD (List.range vs.length) (fun (i : Nat) => PyData.int (i : Int)) T2 (Ex.refl _) (it_range (dena_cons (den_int (i := ((vs.length : Nat) : Int))) dena_nil) (by omega)) fun H3 e3 => ?_
      refine ⟨fun i σ' H' => ∃ (y4 : Option V) (lv fv : List V) (ld fd : List PyData), σ' = [some (.ref r), some (.ref b), some (.ref p), some (.ref L), y4] ∧ Mv r H H' ∧ Row K (L :: p :: S) H' r a scp ∧ Ex (hide (L :: p :: S) H3) (hide (L :: p :: S) H') ∧
        H' p = some (.lst lv) ∧ H' L = some (.lst fv) ∧ DnAll (hide (L :: p :: S) H') lv ld ∧ DnAll (hide (L :: p :: S) H') fv fd ∧ ld.length + i = l.length ∧ (fd ++ ld).Perm l ∧ fv.length ≤ i,
        ⟨none, vs, [], l, [], rfl, hm0.trans (mv_of e3), R2.ex e3, Ex.refl _, e3 p _ hpL, e3 L _ hL0, hd0.up (hide_up e3), .nil, rfl, List.Perm.refl _, Nat.le_refl _⟩, fun _ _ _ ⟨_, _, _, _, _, _, _, _, e, _⟩ => e.trans hide_le, ?_, ?_⟩
      · rintro i x σ' H' v H'' hg ⟨y4, lv, fv, ld, fd, rfl, hm, R3, eB, hlp, hlL, hdl, hdf, hlen, hperm, hfv⟩ e4 hv
        have hi : i < vs.length := by
          have := (List.getElem?_eq_some_iff.mp hg).1
          rwa [List.length_range] at this
        have T3 := Trd H' lv fv hm R3 hlp hlL
        have T4 := T3.up e4
        have R4 := R3.ex e4
        refine asg_name (L :: p :: S) H'' v T4 (hv (L :: p :: S) T3 eB) _ fun σ2 ⟨y, hy, ey⟩ => ?_
        subst ey
        have hll : lv.length = ld.length := hdl.len
        refine ⟨.ref L, rfl, .inl ⟨rfl, fv, .inl (.inl (e4 L _ hlL))⟩, ?_⟩
        refine ⟨.ref p, rfl, .inl ⟨rfl, lv, .inl (.inl (e4 p _ hlp))⟩, ?_⟩
        refine run_taken T4 R4 rfl (vl_lenL rfl (e4 p _ hlp)) (by omega) (by omega) fun k H5 hk m5 R5 => ?_
        have hp5 : H5 p = some (.lst lv) := m5 p _ np (e4 p _ hlp)
        have hL5 : H5 L = some (.lst fv) := m5 L _ nL (e4 L _ hlL)
        have hkd : k < ld.length := by omega
        obtain ⟨z, hz1, hz2⟩ := hdl.get (List.getElem?_eq_getElem hkd)
        have e35 : Ex (hide (L :: p :: S) H') (hide (L :: p :: S) H5) := (hide_up e4).trans (m5.ex R5.mem)
        refine ⟨p, lv, k, k, z, rfl, rfl, hp5, by omega, by omega, (ixN_seq (n := lv.length) (i := (k : Int)) (j := k) (by unfold ixN; rw [if_pos (by omega), if_pos (by omega)]; rfl)).1, hz1, ?_⟩
        refine ⟨L, fv, z, rfl, rfl, by rw [upd_ne npL.symm]; exact hL5, sz_lt (by omega), ?_⟩
        have ehide : hide (L :: p :: S) (upd (upd H5 p (.lst (lv.eraseIdx k))) L (.lst (fv ++ [z]))) = hide (L :: p :: S) H5 := by
          rw [hide_upd]
          funext c
          unfold hide
          by_cases m : c ∈ L :: p :: S
          · rw [if_pos m, if_pos m]
          · rw [if_neg m, if_neg m, upd_ne fun e => m (by rw [e]; exact List.mem_cons_of_mem _ List.mem_cons_self)]
        refine ⟨some y, lv.eraseIdx k, fv ++ [z], ld.eraseIdx k, fd ++ [ld[k]], rfl, ?_, ?_, ?_, by rw [upd_ne npL, upd_same], upd_same, ?_, ?_, ?_, ?_, ?_⟩
        · exact ((((hm.trans (mv_of e4)).trans m5).mut hp).mut hLH)
        · obtain ⟨i', s', z', h1, h2⟩ := R5.at_
          exact ⟨R5.mem, by rw [ehide]; exact R5.scr, R5.len, i', s', z', by rw [upd_ne nL.symm, upd_ne np.symm]; exact h1, h2⟩
        · rw [ehide]
          exact eB.trans e35
        · rw [ehide]
          exact (hdl.up e35).erase k
        · rw [ehide]
          exact DnAll.snoc (hdf.up e35) (hz2.up e35)
        · rw [List.length_eraseIdx, if_pos hkd]
          omega
        · refine List.Perm.trans ?_ hperm
          rw [List.append_assoc]
          exact List.Perm.append_left fd (erase_perm hkd).symm
        · rw [List.length_append, List.length_singleton]
          omega
      · rintro σ' H' ⟨y4, lv, fv, ld, fd, rfl, hm, R3, eB, hlp, hlL, hdl, hdf, hlen, hperm, hfv⟩
        rw [List.length_range] at hlen
        have hld : ld = [] := List.eq_nil_of_length_eq_zero (by omega)
        subst hld
        rw [List.append_nil] at hperm
        refine ⟨.ref L, rfl, q _ (.list fd) H' hm ((R3.pop nL).pop np) ?_ ⟨fd, rfl, hperm⟩⟩
        refine Dn.lst (xs := fv) ?_ ((hdf.up hide_less).up hide_less)
        rw [hide_at LS]
        exact hlL

/-! ### law_any -/
def isPic (h w : Nat) : PyData → Prop := fun d => ∃ c, d = picD h w c
def RAny : List PyData → (PyData → Prop) → Prop := fun ds C => ∃ h wd : Nat, PicOk h wd ∧ ds = [.int (h : Int), .int (wd : Int)] ∧ C = isPic h wd
theorem signs_of : ∀ ds : List PyData, (∀ d ∈ ds, ∃ b, d = .str (sgn b)) → ∃ l : List Bool, ds = (l.map sgn).map .str
  | [], _ => ⟨[], rfl⟩
  | d :: ds, h => by
    obtain ⟨b, rfl⟩ := h d List.mem_cons_self
    obtain ⟨l, e⟩ := signs_of ds fun x hx => h x (List.mem_cons_of_mem _ hx)
    exact ⟨b :: l, by rw [e]; rfl⟩
theorem sgn_len (b : Bool) : (sgn b).length = 1 := by cases b <;> rfl
theorem sum_signs (l : List Bool) : (((l.map sgn).map (·.length)).sum) = l.length := by
  induction l with
  | nil => rfl
  | cons b l ih =>
    rw [List.map_cons, List.map_cons, List.sum_cons, ih, sgn_len, List.length_cons]
    omega
def rJoin (K : PySem.W.Frag) : V → List V → Hp → VK → Prop := fun x xs H Q => ∃ a p, ∃ ys : List Str, x = .str a ∧ xs = [.ref p] ∧ (SqL K H p (ys.map V.str) ∨ SqT K H p (ys.map V.str)) ∧ (ys.map (·.length)).sum + ys.length * a.length ≤ 16777216 ∧ Q (.str (Txt.join a ys)) H
theorem denD_join {σ : L2.St} {B : Hp} {r a : Addr} {scp : List Int} {tl : TE} {n : Nat} (h : DenD K r a scp tl σ B (fun d => ∃ ds, d = .list ds ∧ ds.length = n ∧ ∀ y ∈ ds, ∃ b, y = .str (sgn b))) (hn : n ≤ 1000) : DenD K r a scp (tM1 (rJoin K) (tC (.str "")) tl) σ B (isRow n) := fun S H1 T R e Q q =>
  ⟨⟨_, rfl⟩, h S H1 T R e _ fun v d H2 m2 R2 hv ⟨ds, ed, hl, hC⟩ => by
    subst ed
    obtain ⟨l, rfl⟩ := signs_of ds hC
    rw [List.length_map, List.length_map] at hl
    cases hv with
    | @lst b xs _ hb hx =>
      have hxs := hx.strs
      refine ⟨"", b, l.map sgn, rfl, rfl, .inl (.inl (.inl (by rw [← hxs]; exact hide_le b _ hb))), ?_, ?_⟩
      · rw [sum_signs, List.length_map, show ("" : Str).length = 0 from rfl]
        omega
      · rw [TL.join_eq, join_signs, hl]
        exact q _ _ H2 m2 R2 (.str _) ⟨_, rfl⟩⟩
theorem ok_law_any (T : Tx mg) (h : At K mg "_law_any" s_law_any ["_law_row", "_law_high", "_law_wide"]) (c_law_taken : Prom P w K mg base "_law_taken" ["_law_row", "_law_many"] 1 (SpD K RTaken)) (c_law_pick : Prom P w K mg base "_law_pick" ["_law_row", "_law_things"] 2 (SpD K RPick)) :
    Prom P w K mg base "_law_any" ["_law_row", "_law_high", "_law_wide"] 3 (SpD K RAny) := by
  refine prom_D h sc_law_any (fun ds C hR => by obtain ⟨_, _, _, rfl, _⟩ := hR; rfl) fun f cdv A outer s H us Q E S r a scp ds C hr Tr1 R hv hR q => ?_
  obtain ⟨hh, wd, k, rfl, rfl⟩ := hR
  obtain ⟨k1, k2, k3, k4⟩ := id k
  cases hv with
  | @cons v1 _ _ _ h1 t =>
   cases t with
   | @cons v2 _ _ _ h2 t =>
    cases t
    cases h1
    cases h2
    refine ⟨_, (pss_cons (ps_asg (pe_tup (pa_cons (pe_callP c_law_pick (hr.mono (by decide)) (by rfl) (pa_cons (pv 0) (pa_cons (pe_lst (pa_cons pe_int (pa_cons pe_int (pa_cons pe_int (pa_cons pe_int pa_nil))))) pa_nil))) (pa_cons (pe_lst pa_nil) pa_nil))) (pg_tupK (K := K) (n := 2) (by rfl) (pgs_cons (pg_name (i := 3) sc_law_any.nd rfl (.inr rfl)) (pgs_cons (pg_name (i := 4) sc_law_any.nd rfl (.inl rfl)) pgs_nil))))
      (pss_cons (ps_for PassesOwn.never rfl (pi_range1 (by rfl) T.range_ (pa_cons (pv 1) pa_nil)) (pg_name (i := 5) sc_law_any.nd rfl (.inl rfl)) (pss_one (ps_expr (pe_bm PySem.F.plainAttrs_list PySem.F.slot_list_append PySem.F.type_list_append mt_append (pv 4) (pa_cons (pe_join pe_str (pe_lc (own := [("_law_spot", 6)])  rfl sc_law_any.nd (pi_range1 (by rfl) T.range_ (pa_cons (pv 2) pa_nil)) (blkOk_by (N := n_law_any) (sc := defScope s_law_any) (by decide +kernel)) (fun _ _ _ _ _ => (pg_name (i := 6) sc_law_any.nd rfl (.inl rfl))) (fun _ _ _ _ _ => pts_nil) (fun _ _ _ _ _ => (pe_ifExp (pt_cmpR (k_eq (K := K) hr.units) (pe_callP c_law_taken (hr.mono (by decide)) (by rfl) (pa_cons (pv 0) (pa_cons (pv 3) pa_nil))) pe_int (nomark _)) pe_str pe_str)))) pa_nil)))))
      (pss_one (ps_ret (pe_callTy (k_tup (K := K)) (by rfl) T.tuple_ (by decide +kernel) (pa_cons (pv 4) pa_nil)))))), ?_⟩
    have pick : DenD K r a scp (tCall (SpD K RPick) [] E0 (tCons (tVar 0) (tCons (tLst (tCons (tC (.int 2)) (tCons (tC (.int 2)) (tCons (tC (.int 3)) (tCons (tC (.int 4)) tNil))))) tNil))) (start n_law_any [.ref r, .int (hh : Int), .int (wd : Int)]) (hide S H) (fun d => ∃ n : Nat, 1 ≤ n ∧ n ≤ 1000 ∧ d = .int (n : Int)) :=
      DenD.mono (denD_call (C := (· ∈ [PyData.int 2, .int 2, .int 3, .int 4])) rfl (denAD_cons (Den.dd (den_lst (dena_cons den_int (dena_cons den_int (dena_cons den_int (dena_cons den_int dena_nil)))) (by show 4 ≤ 100000; decide))) denAD_nil) fun ds hc => by
        obtain ⟨d, t, rfl, rfl, rfl⟩ := hc
        exact .inl ⟨_, by decide, by decide, rfl, rfl⟩) fun d hd => by
          simp at hd
          rcases hd with rfl | rfl | rfl
          · exact ⟨2, by decide, by decide, rfl⟩
          · exact ⟨3, by decide, by decide, rfl⟩
          · exact ⟨4, by decide, by decide, rfl⟩
    refine pick S H Tr1 R (Ex.refl _) _ fun x dx H1 m1 R1 hx ⟨n, n1, n2, ex⟩ => ?_
    subst ex
    cases hx
    refine ⟨Nat.zero_le _, fun L hL => ⟨sz_of (by show 2 ≤ 100000; decide), fun p hp => ⟨p, [.int (n : Int), .ref L], rfl, .inl (.inl upd_same), rfl, .int (n : Int), [.ref L], rfl, .ref L, [], rfl, rfl, ?_⟩⟩⟩
    have HL : H L = none := m1.back R1 hL
    have nL : L ≠ r := R1.ne hL
    have LS : L ∉ S := Tr1.not HL
    have T2 : Tr (L :: S) (upd H1 L (.lst [])) := ((Tr1.mv m1 R1).up (Ex.new hL)).cons upd_same
    have R2 : Row K (L :: S) (upd H1 L (.lst [])) r a scp := R1.new hL
    have T3 := T2.up (Ex.new (o := .tup [.int (n : Int), .ref L]) hp)
    have R3 := R2.ex (Ex.new (o := .tup [.int (n : Int), .ref L]) hp)
    have hm3 : Mv r H (upd (upd H1 L (.lst [])) p (.tup [.int (n : Int), .ref L])) := m1.trans (mv_of ((Ex.new hL).trans (Ex.new hp)))
    have hL3 : upd (upd H1 L (.lst [])) p (.tup [.int (n : Int), .ref L]) L = some (.lst []) := Ex.new hp _ _ upd_same
    refine q_forD (List.range hh) (fun (i : Nat) => PyData.int (i : Int)) T3 (Ex.refl _) (it_range (dena_cons (den_var rfl (.int (hh : Int))) dena_nil) (by omega)) fun H4 e4 => ?_
    refine ⟨fun i σ' H' => ∃ (y5 y6 : Option V) (acc : List V) (ds : List PyData), σ' = [some (.ref r), some (.int (hh : Int)), some (.int (wd : Int)), some (.int (n : Int)), some (.ref L), y5, y6] ∧ Mv r H H' ∧ Row K (L :: S) H' r a scp ∧ Ex (hide (L :: S) H4) (hide (L :: S) H') ∧
      H' L = some (.lst acc) ∧ DnAll (hide (L :: S) H') acc ds ∧ ds.length = i ∧ ∀ d ∈ ds, isRow wd d,
      ⟨none, none, [], [], rfl, hm3.trans (mv_of e4), R3.ex e4, Ex.refl _, e4 L _ hL3, .nil, rfl, fun d hd => nomatch hd⟩, fun _ _ _ ⟨_, _, _, _, _, _, _, e, _⟩ => e.trans hide_le, ?_, ?_⟩
    · rintro i x σ' H' v H'' hg ⟨y5, y6, acc, ds, rfl, hm, R5, eB, hacc, hd, hlen, hrow⟩ e5 hv
      have hi : i < hh := by
        have := (List.getElem?_eq_some_iff.mp hg).1
        rwa [List.length_range] at this
      have T5 : Tr (L :: S) H' := fun c hc => by
        rcases List.mem_cons.mp hc with z | hc
        · rw [z]
          exact ⟨_, hacc, fun _ z => by cases z⟩
        · exact Tr1.mv hm (R5.pop nL) c hc
      have T6 := T5.up e5
      have R6 := R5.ex e5
      have hal : acc.length = ds.length := hd.len
      refine asg_name (L :: S) H'' v T6 (hv (L :: S) T5 eB) _ fun σ2 ⟨y, hy, ey⟩ => ?_
      subst ey
      refine s_appDD T6 R6 (Ex.refl _) rfl (e5 L _ hacc) nL (by omega) (denD_join (n := wd) (DenD.mono (denD_lc (C0 := fun d => ∃ b, d = .str (sgn b)) (List.range wd) (fun (i : Nat) => PyData.int (i : Int)) _ (it_range (dena_cons (den_var rfl (.int (wd : Int))) dena_nil) (by omega)) (by rw [List.length_range]; omega) (fun _ _ => asg_name) fun j hj B1 σ1 eB1 ⟨z, hz, ez⟩ => by
        subst ez
        refine ⟨rfl, denD_if (tstD_test (denD_op (C1 := below n) (C2 := fun d => d = .int 0) (denD_call rfl (denAD_cons (Den.dd (den_var rfl (.int (n : Int)))) denAD_nil) fun ds hc => ?_) (Den.dd den_int) fun x y hx hy => ?_)) (DenD.mono (Den.dd den_str) fun d hd => ⟨true, hd⟩) (DenD.mono (Den.dd den_str) fun d hd => ⟨false, hd⟩)⟩
        · obtain ⟨d, t, rfl, rfl, rfl⟩ := hc
          exact ⟨n, n1, n2, rfl, rfl⟩
        · obtain ⟨m, _, rfl⟩ := hx
          subst hy
          exact ⟨_, rd_eqI, _, rfl⟩) fun d ⟨ds, h1, h2, h3⟩ => ⟨ds, h1, by rw [h2, List.length_range], h3⟩) (by omega)) fun u du H7 m7 R7 hu cu => ?_
      have m57 := (mv_of (r := r) e5).trans m7
      refine ⟨_, _, acc ++ [u], ds ++ [du], rfl, (hm.trans m57).mut HL, R7.upd nL, ?_, upd_same, ?_, ?_, ?_⟩
      · rw [hide_upd]
        exact eB.trans (m57.ex R7.mem)
      · rw [hide_upd]
        exact DnAll.snoc (hd.up (m57.ex R7.mem)) hu
      · rw [List.length_append, hlen]
        rfl
      · intro d hd
        rcases List.mem_append.mp hd with hd | hd
        · exact hrow d hd
        · rw [List.mem_singleton.mp hd]
          exact cu
    · rintro σ' H' ⟨y5, y6, acc, ds, rfl, hm, R5, eB, hacc, hd, hlen, hrow⟩
      rw [List.length_range] at hlen
      refine s_retD (Tr1.mv hm (R5.pop nL)) (Ex.refl _) (den_cb (dena_cons (den_var rfl (hide_list LS hacc hd)) dena_nil) rc_tupL) fun v5 H5 e5 hv5 => q v5 _ H5 (hm.trans (mv_of e5)) ((R5.pop nL).ex e5) hv5 (pic_of_rows hlen hrow)
end
end LPW

/-! ## LpL4 -/
/-! law_layers, law_core, law_differ, law_least, law_few. -/
namespace LPW
open PySem PySem.Spec PyProof.Rows L2 Evl

theorem inD_nat (l : Nat) (xs : List Nat) : inD (.int (l : Int)) (natL xs) = decide (l ∈ xs) := by
  unfold inD natL
  rw [List.any_map, Bool.eq_iff_iff, List.any_eq_true, decide_eq_true_iff]
  constructor
  · rintro ⟨x, hx, e⟩
    have e : PyData.eqv (.int (x : Int)) (.int (l : Int)) = true := e
    simp [PyData.eqv] at e
    have : x = l := by omega
    rw [← this]
    exact hx
  · intro h
    exact ⟨l, h, by show PyData.eqv (.int (l : Int)) (.int (l : Int)) = true; simp [PyData.eqv]⟩
theorem flat_nat (xs : List Nat) : (natL xs).all flatD = true := by
  unfold natL
  rw [List.all_map, List.all_eq_true]
  intro _ _
  rfl
theorem inD_hit (h l : Nat) (c : Nat × Nat) : inD (.int (l : Int)) [.int (c.1 : Int), .int ((h + c.2 : Nat) : Int)] = LP.hit h c l := by
  unfold inD LP.hit
  rw [Bool.eq_iff_iff]
  simp only [List.any_cons, List.any_nil, Bool.or_false, Bool.or_eq_true, beq_iff_eq]
  simp only [PyData.eqv, decide_eq_true_iff, beq_iff_eq]
  omega
section
variable {K : PySem.W.Frag} {σ : L2.St} {B H : Hp} {S : List Addr} {te ta tb : TE} {tu tz : TS} {D : Ends} {d1 d2 d3 : PyData}
theorem asg_triple {i j l : Nat} : AsgD (gTup K 3 (gCons (gName i) (gCons (gName j) (gCons (gName l) gNil)))) σ (.tuple [d1, d2, d3]) fun B σ' =>
    ∃ x y z, Dn B x d1 ∧ Dn B y d2 ∧ Dn B z d3 ∧ σ' = ((σ.set i (some x)).set j (some y)).set l (some z) := fun S H v T hv Q q => by
  cases hv with
  | @tup a xs _ ha hx =>
    cases hx with
    | @cons x _ _ _ h1 t =>
      cases t with
      | @cons y _ _ _ h2 t =>
        cases t with
        | @cons z _ _ _ h3 t =>
          cases t
          exact ⟨a, [x, y, z], rfl, .inl (.inl (hide_le a _ ha)), rfl, x, [y, z], rfl, y, [z], rfl, z, [], rfl, rfl, q _ ⟨x, y, z, h1, h2, h3, rfl⟩⟩
/-- a, b, x = .., .., []: x is to be appended to -/
theorem q_asg3L {i j l : Nat} (T : Tr S H) (e : Ex B (hide S H)) (h1 : Den ta σ B d1) (h2 : Den tb σ B d2)
    (k : ∀ x y L H2, Ex H H2 → H L = none → Tr (L :: S) H2 → H2 L = some (.lst []) → Ex (hide S H) (hide (L :: S) H2) → Dn (hide (L :: S) H2) x d1 → Dn (hide (L :: S) H2) y d2 → tz D (((σ.set i (some x)).set j (some y)).set l (some (.ref L))) H2) :
    tSeq (tAsg (tTup (tCons ta (tCons tb (tCons (tLst tNil) tNil)))) (gTup K 3 (gCons (gName i) (gCons (gName j) (gCons (gName l) gNil))))) tz D σ H :=
  h1 S H T e _ fun x H1 e1 hx => h2 S H1 (T.up e1) (e.trans (hide_up e1)) _ fun y H2 e2 hy => ⟨Nat.zero_le _, fun L hL => ⟨sz_of (by show 3 ≤ 100000; decide), fun p hp => by
    have e12 := e1.trans e2
    have o : Ex (hide S H2) (hide (L :: S) (upd H2 L (.lst []))) := hide_open hL (Ex.new hL)
    have e3 : Ex (upd H2 L (.lst [])) (upd (upd H2 L (.lst [])) p (.tup [x, y, .ref L])) := Ex.new hp
    refine ⟨p, [x, y, .ref L], rfl, .inl (.inl upd_same), rfl, x, [y, .ref L], rfl, y, [.ref L], rfl, .ref L, [], rfl, rfl, ?_⟩
    exact k x y L _ (e12.trans ((Ex.new hL).trans e3)) (fresh_back e12 hL) ((((T.up e12).up (Ex.new hL)).cons upd_same).up e3) (e3 L _ upd_same) ((hide_up e12).trans (o.trans (hide_up e3))) (((hx.up (hide_up e2)).up o).up (hide_up e3)) ((hy.up o).up (hide_up e3))⟩⟩
end
section
variable {P : Program} {w : World} {K : PySem.W.Frag} {mg : Str → Option Value} {base : Heap}
theorem white_b (b : Bool) : decide (sgn b = ".") = !b := by cases b <;> decide
theorem black_b (b : Bool) : decide (sgn b = "#") = b := by cases b <;> decide
theorem ok_law_layers (T : Tx mg) (h : At K mg "_law_layers" s_law_layers ["_law_picture_here"]) : Prom P w K mg base "_law_layers" ["_law_picture_here"] 1 (SpR RLayers) := by
  refine prom_R h sc_law_layers (fun ds d hR => by obtain ⟨_, _, _, _, rfl, _⟩ := hR; rfl) fun f cdv A outer s H vs Q E S ds d hr Tr1 hv hR q => ?_
  obtain ⟨hh, wd, c, k, rfl, rfl⟩ := hR
  obtain ⟨k1, k2, k3, k4⟩ := id k
  cases hv with
  | @cons v1 _ _ _ h1 t =>
    cases t
    refine ⟨_, (pss_cons (ps_asg (pe_tup (pa_cons (pe_callB (k_len (K := K)) (by rfl) T.len_ (by decide +kernel) (pa_cons (pv 0) pa_nil)) (pa_cons (pe_callB (k_len (K := K)) (by rfl) T.len_ (by decide +kernel) (pa_cons (pe_ix (k_ix (K := K)) (pv 0) pe_int (fun _ _ => rfl)) pa_nil)) (pa_cons (pe_lst pa_nil) pa_nil)))) (pg_tupK (K := K) (n := 3) (by rfl) (pgs_cons (pg_name (i := 1) sc_law_layers.nd rfl (.inr rfl)) (pgs_cons (pg_name (i := 2) sc_law_layers.nd rfl (.inl rfl)) (pgs_cons (pg_name (i := 3) sc_law_layers.nd rfl (.inl rfl)) pgs_nil)))))
      (pss_cons (ps_asg (pe_tup (pa_cons (pe_listRg rfl (by rfl) T.list_ (prg_1 (by rfl) T.range_ (pv 1))) (pa_cons (pe_listRg rfl (by rfl) T.list_ (prg_1 (by rfl) T.range_ (pv 2))) pa_nil))) (pg_tupK (K := K) (n := 2) (by rfl) (pgs_cons (pg_name (i := 4) sc_law_layers.nd rfl (.inr rfl)) (pgs_cons (pg_name (i := 5) sc_law_layers.nd rfl (.inr rfl)) pgs_nil))))
      (pss_cons (ps_for PassesOwn.never rfl (pi_range1 (by rfl) T.range_ (pa_cons (pe_op op_addA (pv 1) (pv 2)) pa_nil)) (pg_name (i := 6) sc_law_layers.nd rfl (.inl rfl)) (pss_cons (ps_set (i := 7) sc_law_layers.nd rfl (.inr rfl) (pe_lc (own := [("_law_at", 10)])  rfl sc_law_layers.nd (pi_seqK (K := K) (pv 4)) (blkOk_by (N := n_law_layers) (sc := defScope s_law_layers) (by decide +kernel)) (fun _ _ _ _ _ => (pg_name (i := 10) sc_law_layers.nd rfl (.inr rfl))) (fun _ _ _ _ _ => pts_one (pt_cmpR (k_eq (K := K) hr.units) (pe_lc (own := [("_law_spot", 9)])  rfl sc_law_layers.nd (pi_seqK (K := K) (pv 5)) (blkOk_nest (N := n_law_layers) (sc := defScope s_law_layers) rfl (by decide +kernel)) (fun _ _ _ _ _ => (pg_name (i := 9) sc_law_layers.nd rfl (.inl rfl))) (fun _ _ _ _ _ => pts_one (pt_cmpR (k_eq (K := K) hr.units) (pe_ix (k_ix (K := K)) (pe_ix (k_ix (K := K)) (pv 0) (pv 10) (fun _ _ => rfl)) (pv 9) (fun _ _ => rfl)) pe_str (nomark _))) (fun _ _ _ _ _ => pe_int)) (pe_lst pa_nil) (nomark _))) (fun _ _ _ _ _ => (pv 10))))
      (pss_cons (ps_set (i := 8) sc_law_layers.nd rfl (.inr rfl) (pe_lc (own := [("_law_spot", 9)])  rfl sc_law_layers.nd (pi_seqK (K := K) (pv 5)) (blkOk_by (N := n_law_layers) (sc := defScope s_law_layers) (by decide +kernel)) (fun _ _ _ _ _ => (pg_name (i := 9) sc_law_layers.nd rfl (.inr rfl))) (fun _ _ _ _ _ => pts_one (pt_cmpR (k_eq (K := K) hr.units) (pe_lc (own := [("_law_at", 10)])  rfl sc_law_layers.nd (pi_seqK (K := K) (pv 4)) (blkOk_nest (N := n_law_layers) (sc := defScope s_law_layers) rfl (by decide +kernel)) (fun _ _ _ _ _ => (pg_name (i := 10) sc_law_layers.nd rfl (.inl rfl))) (fun _ _ _ _ _ => pts_one (pt_cmpR (k_eq (K := K) hr.units) (pe_ix (k_ix (K := K)) (pe_ix (k_ix (K := K)) (pv 0) (pv 10) (fun _ _ => rfl)) (pv 9) (fun _ _ => rfl)) pe_str (nomark _))) (fun _ _ _ _ _ => pe_int)) (pe_lst pa_nil) (nomark _))) (fun _ _ _ _ _ => (pv 9))))
      (pss_one (ps_if (pt_cmpR (k_ne (K := K) hr.units) (pv 7) (pe_lst pa_nil) (nomark _)) (pss_cons (ps_expr (pe_bm PySem.F.plainAttrs_list PySem.F.slot_list_append PySem.F.type_list_append mt_append (pv 3) (pa_cons (pv 7) pa_nil)))
      (pss_one (ps_set (i := 4) sc_law_layers.nd rfl (.inr rfl) (pe_lc (own := [("_law_at", 10)])  rfl sc_law_layers.nd (pi_seqK (K := K) (pv 4)) (blkOk_by (N := n_law_layers) (sc := defScope s_law_layers) (by decide +kernel)) (fun _ _ _ _ _ => (pg_name (i := 10) sc_law_layers.nd rfl (.inl rfl))) (fun _ _ _ _ _ => pts_one (pt_cmpR (k_nin (K := K)) (pv 10) (pv 7) (by rfl))) (fun _ _ _ _ _ => (pv 10)))))) (pss_one (ps_if (pt_cmpR (k_ne (K := K) hr.units) (pv 8) (pe_lst pa_nil) (nomark _)) (pss_cons (ps_expr (pe_bm PySem.F.plainAttrs_list PySem.F.slot_list_append PySem.F.type_list_append mt_append (pv 3) (pa_cons (pe_lc (own := [("_law_spot", 9)])  rfl sc_law_layers.nd (pi_seqK (K := K) (pv 8)) (blkOk_by (N := n_law_layers) (sc := defScope s_law_layers) (by decide +kernel)) (fun _ _ _ _ _ => (pg_name (i := 9) sc_law_layers.nd rfl (.inl rfl))) (fun _ _ _ _ _ => pts_nil) (fun _ _ _ _ _ => (pe_op op_addA (pv 1) (pv 9)))) pa_nil)))
      (pss_one (ps_set (i := 5) sc_law_layers.nd rfl (.inr rfl) (pe_lc (own := [("_law_spot", 9)])  rfl sc_law_layers.nd (pi_seqK (K := K) (pv 5)) (blkOk_by (N := n_law_layers) (sc := defScope s_law_layers) (by decide +kernel)) (fun _ _ _ _ _ => (pg_name (i := 9) sc_law_layers.nd rfl (.inl rfl))) (fun _ _ _ _ _ => pts_one (pt_cmpR (k_nin (K := K)) (pv 9) (pv 8) (by rfl))) (fun _ _ _ _ _ => (pv 9)))))) pss_nil)))))))
      (pss_one (ps_ret (pv 3)))))), ?_⟩
    refine q_asg3L Tr1 (Ex.refl _) (den_len_pic (den_var rfl h1)) (den_len_row (den_row0 (den_var rfl h1) k1) k4) fun x y L H1 e1 HL T1 hL1 o1 hx hy => ?_
    cases hx
    cases hy
    have nL : L ∉ S := Tr1.not HL
    refine q_asgD T1 (Ex.refl _) (den_tup (dena_cons (den_listRg (den_var rfl (.int (hh : Int))) (by omega)) (dena_cons (den_listRg (den_var rfl (.int (wd : Int))) (by omega)) dena_nil)) (by show 2 ≤ 100000; decide)) asg_pair fun σ' H2 e2 ⟨xr, xc, hxr, hxc, es⟩ => ?_
    subst es
    have g2 := (h1.up o1).up (hide_up (S := L :: S) e2)
    let s0 : LP.LS := ⟨List.range hh, List.range wd, []⟩
    refine q_forD (List.range (hh + wd)) (fun (i : Nat) => PyData.int (i : Int)) (T1.up e2) (Ex.refl _) (it_range (dena_cons (Den.to (d' := .int ((hh + wd : Nat) : Int)) (den_op (den_var rfl (.int (hh : Int))) (den_var rfl (.int (wd : Int))) rd_addI) (by rw [Int.natCast_add])) dena_nil) (by omega)) fun H3 e3 => ?_
    refine ⟨fun i σ' H' => ∃ (st : LP.LS) (xr xc : V) (y6 y7 y8 y9 y10 : Option V) (acc : List V), st = LP.lawRun hh c i s0 ∧ σ' = [some v1, some (.int (hh : Int)), some (.int (wd : Int)), some (.ref L), some xr, some xc, y6, y7, y8, y9, y10] ∧ Ex H H' ∧ Ex (hide (L :: S) H3) (hide (L :: S) H') ∧ H' L = some (.lst acc) ∧ acc.length ≤ i ∧
      DnAll (hide (L :: S) H') acc (st.found.map fun s => .list (natL s)) ∧ Dn (hide (L :: S) H') xr (.list (natL st.rows)) ∧ Dn (hide (L :: S) H') xc (.list (natL st.cols)) ∧
      st.Ok hh wd ∧ st.rows.length ≤ 30 ∧ st.cols.length ≤ 30, ?_, fun _ _ _ ⟨_, _, _, _, _, _, _, _, _, _, _, _, e, _⟩ => e.trans hide_le, ?_, ?_⟩
    · exact ⟨s0, xr, xc, none, none, none, none, none, [], rfl, rfl, (e1.trans e2).trans e3, Ex.refl _, (e2.trans e3) L _ hL1, Nat.le_refl _, .nil, hxr.up (hide_up e3), hxc.up (hide_up e3), ⟨fun i hi => List.mem_range.mp hi, fun j hj => List.mem_range.mp hj⟩, by show (List.range hh).length ≤ 30; rw [List.length_range]; omega, by show (List.range wd).length ≤ 30; rw [List.length_range]; omega⟩
    · rintro i a σ' H' v H'' hg ⟨st, xr, xc, y6, y7, y8, y9, y10, acc, hst, rfl, eH, eB, hacc, hlen, hfnd, hrows, hcols, hok, hl1, hl2⟩ e4 hv
      have hi : i < hh + wd := by
        have := (List.getElem?_eq_some_iff.mp hg).1
        rwa [List.length_range] at this
      have hnext : LP.lawRun hh c (i + 1) s0 = LP.lawStep hh c st := by rw [LP.lawRun_succ, ← hst]
      have T2 : Tr (L :: S) H' := (Tr1.up eH).cons hacc
      have T4 := T2.up e4
      refine asg_name (L :: S) H'' v T4 (hv (L :: S) T2 eB) _ fun σ2 ⟨y, hy, ey⟩ => ?_
      subst ey
      have g4 : Dn (hide (L :: S) H'') v1 (picD hh wd c) := ((g2.up (hide_up e3)).up eB).up (hide_up e4)
      have r4 := hrows.up (hide_up (S := L :: S) e4)
      have c4 := hcols.up (hide_up (S := L :: S) e4)
      -- full
      refine q_setD T4 (Ex.refl _) (Den.to (den_lc st.rows (fun (l : Nat) => PyData.int (l : Int)) _ (fun i => (st.cols.filter fun j => !c i j).isEmpty) (fun (l : Nat) => .int (l : Int)) (it_list (den_var rfl r4)) (by omega) (fun _ _ => asg_name) fun i0 hi0 B1 σ1 eB1 ⟨z, hz, ez⟩ => by
        subst ez
        refine ⟨rfl, Tst.to (tst_test (den_op (den_lc st.cols (fun (l : Nat) => PyData.int (l : Int)) _ (fun j => !c i0 j) (fun _ => .int 1) (it_list (den_var rfl (c4.up eB1))) (by omega) (fun _ _ => asg_name) fun j0 hj0 B2 σ2 eB2 ⟨u, hu, eu⟩ => by
          subst eu
          refine ⟨rfl, Tst.to (tst_test (den_op (den_sign (den_row (den_var rfl ((g4.up eB1).up eB2)) (den_var rfl (hz.up eB2)) (hok.r i0 hi0)) (den_var rfl hu) k4 (hok.c j0 hj0)) den_str rd_eqS)) (white_b _), fun _ => den_int⟩) (den_lst dena_nil (by show 0 ≤ 100000; decide)) (rd_eqL (n := 1) (Ok.list fun x hx => by
            obtain ⟨_, _, rfl⟩ := List.mem_map.mp hx
            exact .int) (by decide)))) (by rw [List.isEmpty_map]), fun _ => den_var rfl hz⟩) (show _ = PyData.list (natL (LP.full c st)) from rfl)) fun xf H5 e5 hf => ?_
      have T5 := T4.up e5
      have g5 := g4.up (hide_up (S := L :: S) e5)
      have r5 := r4.up (hide_up (S := L :: S) e5)
      have c5 := c4.up (hide_up (S := L :: S) e5)
      -- empty
      refine q_setD T5 (Ex.refl _) (Den.to (den_lc st.cols (fun (l : Nat) => PyData.int (l : Int)) _ (fun j => (st.rows.filter fun i => c i j).isEmpty) (fun (l : Nat) => .int (l : Int)) (it_list (den_var rfl c5)) (by omega) (fun _ _ => asg_name) fun j0 hj0 B1 σ1 eB1 ⟨z, hz, ez⟩ => by
        subst ez
        refine ⟨rfl, Tst.to (tst_test (den_op (den_lc st.rows (fun (l : Nat) => PyData.int (l : Int)) _ (fun i => c i j0) (fun _ => .int 1) (it_list (den_var rfl (r5.up eB1))) (by omega) (fun _ _ => asg_name) fun i0 hi0 B2 σ2 eB2 ⟨u, hu, eu⟩ => by
          subst eu
          refine ⟨rfl, Tst.to (tst_test (den_op (den_sign (den_row (den_var rfl ((g5.up eB1).up eB2)) (den_var rfl hu) (hok.r i0 hi0)) (den_var rfl (hz.up eB2)) k4 (hok.c j0 hj0)) den_str rd_eqS)) (black_b _), fun _ => den_int⟩) (den_lst dena_nil (by show 0 ≤ 100000; decide)) (rd_eqL (n := 1) (Ok.list fun x hx => by
            obtain ⟨_, _, rfl⟩ := List.mem_map.mp hx
            exact .int) (by decide)))) (by rw [List.isEmpty_map]), fun _ => den_var rfl hz⟩) (show _ = PyData.list (natL (LP.empt c st)) from rfl)) fun xe H6 e6 he => ?_
      have e46 := (e4.trans e5).trans e6
      have T6 := T2.up e46
      have r6 := hrows.up (hide_up (S := L :: S) e46)
      have c6 := hcols.up (hide_up (S := L :: S) e46)
      have d6 := hfnd.up (hide_up (S := L :: S) e46)
      have f6 := hf.up (hide_up (S := L :: S) e6)
      have okF : Ok 1 (.list (natL (LP.full c st))) := Ok.list (Ok.nats 0 _)
      have okE : Ok 1 (.list (natL (LP.empt c st))) := Ok.list (Ok.nats 0 _)
      have eF : (natL (LP.full c st)).isEmpty = (LP.full c st).isEmpty := by unfold natL; rw [List.isEmpty_map]
      have eE : (natL (LP.empt c st)).isEmpty = (LP.empt c st).isEmpty := by unfold natL; rw [List.isEmpty_map]
      unfold LP.lawStep at hnext
      refine s_ifD T6 (Ex.refl _) (Tst.to (tst_test (den_op (den_var rfl f6) (den_lst dena_nil (by show 0 ≤ 100000; decide)) (rd_neL okF (by decide)))) (by rw [eF])) (fun hb H7 e7 => ?_) fun hb H7 e7 => ?_
      · have hne : LP.full c st ≠ [] := fun z => by
          rw [z] at hb
          cases hb
        rw [if_pos hne] at hnext
        have e47 := e46.trans e7
        refine q_appD (T6.up e7) (Ex.refl _) rfl (e47 L _ hacc) (by omega) (den_var rfl (f6.up (hide_up e7))) fun z H8 e8 hz => ?_
        have e48 := e47.trans e8
        have T8 : Tr (L :: S) (upd H8 L (.lst (acc ++ [z]))) := (Tr1.up (Ex.mut (eH.trans e48) HL)).cons upd_same
        have eK : Ex (hide (L :: S) H') (hide (L :: S) (upd H8 L (.lst (acc ++ [z])))) := by
          rw [hide_upd]
          exact hide_up e48
        have f8 : Dn (hide (L :: S) (upd H8 L (.lst (acc ++ [z])))) xf (.list (natL (LP.full c st))) := by
          rw [hide_upd]
          exact f6.up (hide_up (e7.trans e8))
        have z8 : Dn (hide (L :: S) (upd H8 L (.lst (acc ++ [z])))) z (.list (natL (LP.full c st))) := by
          rw [hide_upd]
          exact hz
        refine s_setD T8 (Ex.refl _) (Den.to (den_lc st.rows (fun (l : Nat) => PyData.int (l : Int)) _ (fun i => !decide (i ∈ LP.full c st)) (fun (l : Nat) => .int (l : Int)) (it_list (den_var rfl (hrows.up eK))) (by omega) (fun _ _ => asg_name) fun l0 hl0 B1 σ1 eB1 ⟨u, hu, eu⟩ => by
          subst eu
          exact ⟨rfl, Tst.to (tst_test (den_op (den_var rfl hu) (den_var rfl (f8.up eB1)) (rd_inL (neg := true) rfl (flat_nat _)))) (by rw [if_pos rfl, inD_nat]), fun _ => den_var rfl hu⟩) (show _ = PyData.list (natL (st.rows.filter fun i => !decide (i ∈ LP.full c st))) from rfl)) fun xr2 H9 e9 hr2 => ?_
        refine ⟨_, xr2, xc, _, _, _, _, _, acc ++ [z], hnext.symm, rfl, (Ex.mut (eH.trans e48) HL).trans e9, (eB.trans eK).trans (hide_up e9), e9 L _ upd_same, by rw [List.length_append, List.length_singleton]; omega, ?_, hr2, (hcols.up eK).up (hide_up e9), ⟨fun i hi => hok.r i (List.mem_filter.mp hi).1, hok.c⟩, Nat.le_trans (List.length_filter_le _ _) hl1, hl2⟩
        show DnAll _ _ ((st.found ++ [LP.full c st]).map fun s => PyData.list (natL s))
        rw [List.map_append]
        exact DnAll.snoc ((hfnd.up eK).up (hide_up e9)) (z8.up (hide_up e9))
      · have hnil : LP.full c st = [] := by
          cases hc : LP.full c st with
          | nil => rfl
          | cons _ _ => rw [hc] at hb; cases hb
        rw [if_neg (fun z => z hnil)] at hnext
        have e47 := e46.trans e7
        refine s_ifD (T6.up e7) (Ex.refl _) (Tst.to (tst_test (den_op (den_var rfl (he.up (hide_up e7))) (den_lst dena_nil (by show 0 ≤ 100000; decide)) (rd_neL okE (by decide)))) (by rw [eE])) (fun hb2 H8 e8 => ?_) fun hb2 H8 e8 => ?_
        · have hne : LP.empt c st ≠ [] := fun z => by
            rw [z] at hb2
            cases hb2
          rw [if_pos hne] at hnext
          have e48 := e47.trans e8
          have he8 := he.up (hide_up (S := L :: S) (e7.trans e8))
          have hel : (LP.empt c st).length ≤ 30 := Nat.le_trans (List.length_filter_le _ _) hl2
          refine q_appD ((T6.up e7).up e8) (Ex.refl _) rfl (e48 L _ hacc) (by omega) (Den.to (den_lcM (LP.empt c st) (fun (l : Nat) => PyData.int (l : Int)) _ (fun j => .int ((hh + j : Nat) : Int)) (it_list (den_var rfl he8)) (by omega) (fun _ _ => asg_name) fun j0 hj0 B1 σ1 eB1 ⟨u, hu, eu⟩ => by
            subst eu
            exact ⟨rfl, Den.to (den_op (den_var rfl (.int (hh : Int))) (den_var rfl hu) rd_addI) (by rw [Int.natCast_add])⟩) (show _ = PyData.list (natL ((LP.empt c st).map fun j => hh + j)) by unfold natL; rw [List.map_map]; rfl)) fun z H9 e9 hz => ?_
          have e49 := e48.trans e9
          have T9 : Tr (L :: S) (upd H9 L (.lst (acc ++ [z]))) := (Tr1.up (Ex.mut (eH.trans e49) HL)).cons upd_same
          have eK : Ex (hide (L :: S) H') (hide (L :: S) (upd H9 L (.lst (acc ++ [z])))) := by
            rw [hide_upd]
            exact hide_up e49
          have f9 : Dn (hide (L :: S) (upd H9 L (.lst (acc ++ [z])))) xe (.list (natL (LP.empt c st))) := by
            rw [hide_upd]
            exact he8.up (hide_up e9)
          have z9 : Dn (hide (L :: S) (upd H9 L (.lst (acc ++ [z])))) z (.list (natL ((LP.empt c st).map fun j => hh + j))) := by
            rw [hide_upd]
            exact hz
          refine s_setD T9 (Ex.refl _) (Den.to (den_lc st.cols (fun (l : Nat) => PyData.int (l : Int)) _ (fun j => !decide (j ∈ LP.empt c st)) (fun (l : Nat) => .int (l : Int)) (it_list (den_var rfl (hcols.up eK))) (by omega) (fun _ _ => asg_name) fun l0 hl0 B1 σ1 eB1 ⟨u, hu, eu⟩ => by
            subst eu
            exact ⟨rfl, Tst.to (tst_test (den_op (den_var rfl hu) (den_var rfl (f9.up eB1)) (rd_inL (neg := true) rfl (flat_nat _)))) (by rw [if_pos rfl, inD_nat]), fun _ => den_var rfl hu⟩) (show _ = PyData.list (natL (st.cols.filter fun j => !decide (j ∈ LP.empt c st))) from rfl)) fun xc2 H10 e10 hc2 => ?_
          refine ⟨_, xr, xc2, _, _, _, _, _, acc ++ [z], hnext.symm, rfl, (Ex.mut (eH.trans e49) HL).trans e10, (eB.trans eK).trans (hide_up e10), e10 L _ upd_same, by rw [List.length_append, List.length_singleton]; omega, ?_, (hrows.up eK).up (hide_up e10), hc2, ⟨hok.r, fun j hj => hok.c j (List.mem_filter.mp hj).1⟩, hl1, Nat.le_trans (List.length_filter_le _ _) hl2⟩
          show DnAll _ _ ((st.found ++ [(LP.empt c st).map fun j => hh + j]).map fun s => PyData.list (natL s))
          rw [List.map_append]
          exact DnAll.snoc ((hfnd.up eK).up (hide_up e10)) (z9.up (hide_up e10))
        · have hnil2 : LP.empt c st = [] := by
            cases hc : LP.empt c st with
            | nil => rfl
            | cons _ _ => rw [hc] at hb2; cases hb2
          rw [if_neg (fun z => z hnil2)] at hnext
          have e48 := e47.trans e8
          exact ⟨_, xr, xc, _, _, _, _, _, acc, hnext.symm, rfl, eH.trans e48, eB.trans (hide_up e48), e48 L _ hacc, by omega, hfnd.up (hide_up e48), hrows.up (hide_up e48), hcols.up (hide_up e48), hok, hl1, hl2⟩
    · rintro σ' H' ⟨st, xr, xc, y6, y7, y8, y9, y10, acc, hst, rfl, eH, eB, hacc, hlen, hfnd, _⟩
      rw [List.length_range] at hst
      rw [hst] at hfnd
      refine ⟨.ref L, rfl, q _ H' eH ?_⟩
      rw [← LP.lawLayers_eq]
      exact hide_list nL hacc hfnd
end
end LPW

/-! ## LpL5 -/
/-! law_core, law_differ, law_least, law_few. -/
namespace LPW
open PySem PySem.Spec PyProof.Rows L2 Evl

/-- a promise that leaves the result open: C says which it may be -/
def SpC (R : List PyData → (PyData → Prop) → Prop) : Sp := fun vs H Q _ => ∃ S ds C, Tr S H ∧ DnAll (hide S H) vs ds ∧ R ds C ∧ ∀ v d H', Ex H H' → Dn (hide S H') v d → C d → Q v H'
section
variable {P : Program} {w : World} {K : PySem.W.Frag} {mg : Str → Option Value} {base : Heap}
theorem natL_app (a b : List Nat) : natL a ++ natL b = natL (a ++ b) := by
  unfold natL
  rw [List.map_append]
theorem flat_size {L : List (List Nat)} {m : Nat} (h : ∀ s ∈ L, s.length ≤ m) : L.flatten.length ≤ L.length * m := by
  induction L with
  | nil => simp
  | cons s L ih =>
    have h1 := h s List.mem_cons_self
    have h2 := ih fun x hx => h x (List.mem_cons_of_mem _ hx)
    rw [List.flatten_cons, List.length_append, List.length_cons, Nat.add_mul, Nat.one_mul]
    omega
theorem take_size {h wd i : Nat} {c : LP.Pic} (k : PicOk h wd) : ((LP.layers h wd c).take i).flatten.length ≤ 3600 := by
  refine Nat.le_trans (flat_size (m := h + wd) fun s hs => LP.layers_size (List.mem_of_mem_take hs)) (Nat.le_trans (Nat.mul_le_mul_right _ ?_) (layers_sum (c := c) k))
  rw [List.length_take]
  exact Nat.min_le_right _ _
theorem ok_law_core (T : Tx mg) (h : At K mg "_law_core" s_law_core ["_law_picture_here"]) (c_law_layers : Prom P w K mg base "_law_layers" ["_law_picture_here"] 1 (SpR RLayers)) : Prom P w K mg base "_law_core" ["_law_picture_here"] 2 (SpR RCore) := by
  refine prom_R h sc_law_core (fun ds d hR => by obtain ⟨_, _, _, _, rfl, _⟩ := hR; rfl) fun f cdv A outer s H vs Q E S ds d hr Tr1 hv hR q => ?_
  obtain ⟨hh, wd, c, k, rfl, rfl⟩ := hR
  obtain ⟨k1, k2, k3, k4⟩ := id k
  cases hv with
  | @cons v1 _ _ _ h1 t =>
    cases t
    refine ⟨_, (pss_cons (ps_set (i := 1) sc_law_core.nd rfl (.inr rfl) (pe_lst pa_nil))
      (pss_cons (ps_for PassesOwn.never rfl (pi_seqK (K := K) (pe_callP c_law_layers (hr.mono (by decide)) (by rfl) (pa_cons (pv 0) pa_nil))) (pg_name (i := 2) sc_law_core.nd rfl (.inl rfl)) (pss_one (ps_set (i := 1) sc_law_core.nd rfl (.inr rfl) (pe_op op_addA (pv 1) (pv 2)))))
      (pss_one (ps_ret (pe_lc (own := [("_law_line", 3)])  rfl sc_law_core.nd (pi_range1 (by rfl) T.range_ (pa_cons (pe_op op_addA (pe_callB (k_len (K := K)) (by rfl) T.len_ (by decide +kernel) (pa_cons (pv 0) pa_nil)) (pe_callB (k_len (K := K)) (by rfl) T.len_ (by decide +kernel) (pa_cons (pe_ix (k_ix (K := K)) (pv 0) pe_int (fun _ _ => rfl)) pa_nil))) pa_nil)) (blkOk_by (N := n_law_core) (sc := defScope s_law_core) (by decide +kernel)) (fun _ _ _ _ _ => (pg_name (i := 3) sc_law_core.nd rfl (.inl rfl))) (fun _ _ _ _ _ => pts_one (pt_cmpR (k_nin (K := K)) (pv 3) (pv 1) (by rfl))) (fun _ _ _ _ _ => (pv 3))))))), ?_⟩
    refine q_setD Tr1 (Ex.refl _) (den_lst dena_nil (by show 0 ≤ 100000; decide)) fun x0 H1 e1 hx0 => ?_
    have g1 := h1.up (hide_up (S := S) e1)
    refine q_forD (LP.layers hh wd c) (fun s => .list (natL s)) (Tr1.up e1) (Ex.refl _) (it_list (den_call (dena_cons (den_var rfl g1) dena_nil) ⟨hh, wd, c, k, rfl, rfl⟩)) fun H2 e2 => ?_
    refine ⟨fun i σ' H' => ∃ (x : V) (y2 y3 : Option V), σ' = [some v1, some x, y2, y3] ∧ Ex H2 H' ∧ Dn (hide S H') x (.list (natL ((LP.layers hh wd c).take i).flatten)), ⟨x0, none, none, rfl, Ex.refl _, hx0.up (hide_up e2)⟩, fun _ _ _ ⟨_, _, _, _, e, _⟩ => hide_le.trans e, ?_, ?_⟩
    · rintro i a σ' H' v H'' hg ⟨x, y2, y3, rfl, e3, hx⟩ e4 hv
      have T3 := (Tr1.up e1).up (e2.trans e3)
      have ha := LP.layers_size (List.mem_of_getElem? hg)
      refine asg_name S H'' v (T3.up e4) (hv S T3 (hide_up e3)) _ fun σ2 ⟨z, hz, ez⟩ => ?_
      subst ez
      have hts := take_size (i := i) (c := c) k
      refine s_setD (T3.up e4) (Ex.refl _) (den_op (den_var rfl (hx.up (hide_up e4))) (den_var rfl hz) (rd_addL (by unfold natL; rw [List.length_map, List.length_map]; omega))) fun u H5 e5 hu => ⟨u, some z, y3, rfl, (e3.trans e4).trans e5, ?_⟩
      rw [List.take_add_one, hg, List.flatten_append]
      rw [natL_app] at hu
      show Dn _ u (.list (natL (_ ++ (a ++ []))))
      rw [List.append_nil]
      exact hu
    · rintro σ' H' ⟨x, y2, y3, rfl, e3, hx⟩
      rw [List.take_length] at hx
      have T3 := (Tr1.up e1).up (e2.trans e3)
      have g3 := g1.up (hide_up (S := S) (e2.trans e3))
      refine s_retD T3 (Ex.refl _) (Den.to (den_lc (List.range (hh + wd)) (fun (l : Nat) => PyData.int (l : Int)) _ (fun l => !decide (l ∈ (LP.layers hh wd c).flatten)) (fun (l : Nat) => .int (l : Int))
        (it_range (dena_cons (Den.to (d' := .int ((hh + wd : Nat) : Int)) (den_op (den_len_pic (den_var rfl g3)) (den_len_row (den_row0 (den_var rfl g3) k1) k4) rd_addI) (by rw [Int.natCast_add])) dena_nil) (by omega)) (by rw [List.length_range]; omega) (fun _ _ => asg_name) fun l hl B1 σ1 eB ⟨u, hu, eu⟩ => by
          subst eu
          exact ⟨rfl, Tst.to (tst_test (den_op (den_var rfl hu) (den_var rfl (hx.up eB)) (rd_inL (neg := true) rfl (flat_nat _)))) (by rw [if_pos rfl, inD_nat]), fun _ => den_var rfl hu⟩)
        (show _ = PyData.list (natL (LP.core hh wd c)) from rfl)) fun v5 H5 e5 hv5 => q v5 H5 ((e1.trans e2).trans (e3.trans e5)) hv5
theorem ok_law_differ (T : Tx mg) (h : At K mg "_law_differ" s_law_differ ["_law_start_here", "_law_goal"]) : Prom P w K mg base "_law_differ" ["_law_start_here", "_law_goal"] 1 (SpR RDiffering) := by
  refine prom_R h sc_law_differ (fun ds d hR => by obtain ⟨_, _, _, _, _, rfl, _⟩ := hR; rfl) fun f cdv A outer s H vs Q E S ds d hr Tr1 hv hR q => ?_
  obtain ⟨hh, wd, ps, pg, k, rfl, rfl⟩ := hR
  obtain ⟨k1, k2, k3, k4⟩ := id k
  cases hv with
  | @cons v1 _ _ _ h1 t =>
   cases t with
   | @cons v2 _ _ _ h2 t =>
    cases t
    refine ⟨_, (pss_cons (ps_set (i := 2) sc_law_differ.nd rfl (.inl rfl) (pe_lst pa_nil))
      (pss_cons (ps_for PassesOwn.never rfl (pi_range1 (by rfl) T.range_ (pa_cons (pe_callB (k_len (K := K)) (by rfl) T.len_ (by decide +kernel) (pa_cons (pv 0) pa_nil)) pa_nil)) (pg_name (i := 3) sc_law_differ.nd rfl (.inr rfl)) (pss_one (ps_set (i := 2) sc_law_differ.nd rfl (.inl rfl) (pe_op op_addA (pv 2) (pe_lc (own := [("_law_spot", 4)])  rfl sc_law_differ.nd (pi_range1 (by rfl) T.range_ (pa_cons (pe_callB (k_len (K := K)) (by rfl) T.len_ (by decide +kernel) (pa_cons (pe_ix (k_ix (K := K)) (pv 0) pe_int (fun _ _ => rfl)) pa_nil)) pa_nil)) (blkOk_by (N := n_law_differ) (sc := defScope s_law_differ) (by decide +kernel)) (fun _ _ _ _ _ => (pg_name (i := 4) sc_law_differ.nd rfl (.inl rfl))) (fun _ _ _ _ _ => pts_one (pt_cmpR (k_ne (K := K) hr.units) (pe_ix (k_ix (K := K)) (pe_ix (k_ix (K := K)) (pv 0) (pv 3) (fun _ _ => rfl)) (pv 4) (fun _ _ => rfl)) (pe_ix (k_ix (K := K)) (pe_ix (k_ix (K := K)) (pv 1) (pv 3) (fun _ _ => rfl)) (pv 4) (fun _ _ => rfl)) (nomark _))) (fun _ _ _ _ _ => (pe_tup (pa_cons (pv 3) (pa_cons (pv 4) pa_nil)))))))))
      (pss_one (ps_ret (pv 2))))), ?_⟩
    refine q_setD Tr1 (Ex.refl _) (den_lst dena_nil (by show 0 ≤ 100000; decide)) fun x0 H1 e1 hx0 => ?_
    have g1 := h1.up (hide_up (S := S) e1)
    have g2 := h2.up (hide_up (S := S) e1)
    let line : Nat → List (Nat × Nat) := fun i => ((List.range wd).filter fun j => ps i j != pg i j).map fun j => (i, j)
    refine q_forD (List.range hh) (fun (i : Nat) => PyData.int (i : Int)) (Tr1.up e1) (Ex.refl _) (it_range (dena_cons (den_len_pic (den_var rfl g1)) dena_nil) (by omega)) fun H2 e2 => ?_
    refine ⟨fun i σ' H' => ∃ (x : V) (y3 y4 : Option V), σ' = [some v1, some v2, some x, y3, y4] ∧ Ex H2 H' ∧ Dn (hide S H') x (.list ((((List.range hh).take i).flatMap line).map cellD)) ∧ (((List.range hh).take i).flatMap line).length ≤ i * 30, ⟨x0, none, none, rfl, Ex.refl _, hx0.up (hide_up e2), by simp⟩, fun _ _ _ ⟨_, _, _, _, e, _⟩ => hide_le.trans e, ?_, ?_⟩
    · rintro i a σ' H' v H'' hg ⟨x, y3, y4, rfl, e3, hx, hlen⟩ e4 hv
      have hai : a = i ∧ i < hh := by
        obtain ⟨h1, h2⟩ := List.getElem?_eq_some_iff.mp hg
        rw [List.length_range] at h1
        rw [List.getElem_range] at h2
        exact ⟨h2.symm, h1⟩
      obtain ⟨rfl, hi⟩ := hai
      have T3 := (Tr1.up e1).up (e2.trans e3)
      have T4 := T3.up e4
      have e24 := (e2.trans e3).trans e4
      have p1 := g1.up (hide_up (S := S) e24)
      have p2 := g2.up (hide_up (S := S) e24)
      have hll : (line a).length ≤ 30 := by
        show (((List.range wd).filter fun j => ps a j != pg a j).map fun j => (a, j)).length ≤ 30
        rw [List.length_map]
        exact Nat.le_trans (List.length_filter_le _ _) (by rw [List.length_range]; omega)
      refine asg_name S H'' v T4 (hv S T3 (hide_up e3)) _ fun σ2 ⟨z, hz, ez⟩ => ?_
      subst ez
      refine s_setD T4 (Ex.refl _) (den_op (den_var rfl (hx.up (hide_up e4))) (Den.to (den_lc (List.range wd) (fun (l : Nat) => PyData.int (l : Int)) _ (fun j => ps a j != pg a j) (fun j => cellD (a, j)) (it_range (dena_cons (den_len_row (den_row0 (den_var rfl p1) k1) k4) dena_nil) (by omega)) (by rw [List.length_range]; omega) (fun _ _ => asg_name) fun j hj B1 σ1 eB ⟨u, hu, eu⟩ => by
        subst eu
        have hj := List.mem_range.mp hj
        refine ⟨rfl, Tst.to (tst_test (den_op (den_sign (den_row (den_var rfl (p1.up eB)) (den_var rfl (hz.up eB)) hi) (den_var rfl hu) k4 hj) (den_sign (den_row (den_var rfl (p2.up eB)) (den_var rfl (hz.up eB)) hi) (den_var rfl hu) k4 hj) rd_neS)) ?_, fun _ => den_tup (dena_cons (den_var rfl (hz.up eB)) (dena_cons (den_var rfl hu) dena_nil)) (by show 2 ≤ 100000; decide)⟩
        cases ps a j <;> cases pg a j <;> decide) (show _ = PyData.list ((line a).map cellD) by show PyData.list _ = PyData.list ((((List.range wd).filter fun j => ps a j != pg a j).map fun j => (a, j)).map cellD); rw [List.map_map]; rfl)) (rd_addL (by rw [List.length_map, List.length_map]; omega))) fun u H5 e5 hu => ⟨u, some z, y4, rfl, (e3.trans e4).trans e5, ?_, ?_⟩
      · rw [List.take_add_one, hg, List.flatMap_append, List.map_append]
        show Dn _ u (.list (_ ++ (line a ++ []).map cellD))
        rw [List.append_nil]
        exact hu
      · rw [List.take_add_one, hg, List.flatMap_append, List.length_append]
        show _ + (line a ++ []).length ≤ _
        rw [List.append_nil]
        omega
    · rintro σ' H' ⟨x, y3, y4, rfl, e3, hx, _⟩
      rw [List.take_length] at hx
      exact ⟨x, rfl, q x H' ((e1.trans e2).trans e3) hx⟩
/-! ### law_least, law_few -/
def RLawLeast : List PyData → (PyData → Prop) → Prop := fun ds C => ∃ h wd s g, PicOk h wd ∧ ds = [picD h wd s, picD h wd g] ∧ C = fun d => match LP.lawLeast h wd s g with
  | none => d = .none
  | some F => ∃ l, d = .list l ∧ l.length = F.length
theorem any_filter {α : Type} (l : List α) (p : α → Bool) : (!(l.filter p).isEmpty) = l.any p := by
  induction l with
  | nil => rfl
  | cons a l ih =>
    rw [List.filter_cons, List.any_cons]
    cases p a with
    | true => rfl
    | false =>
      rw [if_neg Bool.false_ne_true, Bool.false_or]
      exact ih
theorem ok_law_least (T : Tx mg) (h : At K mg "_law_least" s_law_least ["_law_start_here", "_law_goal"]) (c_law_differ : Prom P w K mg base "_law_differ" ["_law_start_here", "_law_goal"] 1 (SpR RDiffering)) (c_law_layers : Prom P w K mg base "_law_layers" ["_law_picture_here"] 1 (SpR RLayers)) :
    Prom P w K mg base "_law_least" ["_law_start_here", "_law_goal"] 2 (SpC RLawLeast) := by
  refine prom_of h sc_law_least (fun vs H Q E hq => by
    obtain ⟨S, ds, C, _, hv, ⟨_, _, _, _, _, rfl, _⟩, _⟩ := hq
    rw [hv.len]
    rfl) fun f cdv A outer s H vs Q E hr hq => ?_
  obtain ⟨S, ds, C, Tr1, hv, ⟨hh, wd, ps, pg, k, rfl, rfl⟩, q⟩ := hq
  obtain ⟨k1, k2, k3, k4⟩ := id k
  cases hv with
  | @cons v1 _ _ _ h1 t =>
   cases t with
   | @cons v2 _ _ _ h2 t =>
    cases t
    refine ⟨_, (pss_cons (ps_asg (pe_tup (pa_cons (pe_callP c_law_differ (hr.mono (by decide)) (by rfl) (pa_cons (pv 0) (pa_cons (pv 1) pa_nil))) (pa_cons (pe_lst pa_nil) (pa_cons (pe_callB (k_len (K := K)) (by rfl) T.len_ (by decide +kernel) (pa_cons (pv 0) pa_nil)) pa_nil)))) (pg_tupK (K := K) (n := 3) (by rfl) (pgs_cons (pg_name (i := 2) sc_law_least.nd rfl (.inr rfl)) (pgs_cons (pg_name (i := 3) sc_law_least.nd rfl (.inl rfl)) (pgs_cons (pg_name (i := 4) sc_law_least.nd rfl (.inr rfl)) pgs_nil)))))
      (pss_cons (ps_for PassesOwn.never rfl (pi_seqK (K := K) (pe_callP c_law_layers (hr.mono (by decide)) (by rfl) (pa_cons (pv 1) pa_nil))) (pg_name (i := 5) sc_law_least.nd rfl (.inr rfl)) (pss_cons (ps_if (pt_cmpR (k_eq (K := K) hr.units) (pv 2) (pe_lst pa_nil) (nomark _)) (pss_one ps_break) pss_nil)
      (pss_cons (ps_setLc (i := 6) (own := [("_law_cell", 7)])  rfl sc_law_least.nd rfl rfl (sw_true rfl rfl rfl (by decide +kernel)) (pi_seqK (K := K) (pv 2)) (blkOk_by (N := n_law_least) (sc := defScope s_law_least) (by decide +kernel)) (fun _ _ _ _ _ => (pg_name (i := 7) sc_law_least.nd rfl (.inl rfl))) (fun _ _ _ _ _ => pts_one (PW.pt (pw_and (pt_cmpR (k_nin (K := K)) (pe_ix (k_ix (K := K)) (pv 7) pe_int (fun _ _ => rfl)) (pv 5) (by rfl)) (pw_and1 (pt_cmpR (k_nin (K := K)) (pe_op op_addA (pv 4) (pe_ix (k_ix (K := K)) (pv 7) pe_int (fun _ _ => rfl))) (pv 5) (by rfl)))))) (fun _ _ _ _ _ => (pv 7)))
      (pss_cons (ps_if (pt_cmpR (k_eq (K := K) hr.units) (pv 6) (pe_lst pa_nil) (nomark _)) (pss_one (ps_set (i := 3) sc_law_least.nd rfl (.inl rfl) (pe_op op_addA (pv 3) (pe_lc (own := [("_law_line", 8)])  rfl sc_law_least.nd (pi_seqK (K := K) (pv 5)) (blkOk_by (N := n_law_least) (sc := defScope s_law_least) (by decide +kernel)) (fun _ _ _ _ _ => (pg_name (i := 8) sc_law_least.nd rfl (.inr rfl))) (fun _ _ _ _ _ => pts_one (pt_cmpR (k_ne (K := K) hr.units) (pe_lc (own := [("_law_cell", 7)])  rfl sc_law_least.nd (pi_seqK (K := K) (pv 2)) (blkOk_nest (N := n_law_least) (sc := defScope s_law_least) rfl (by decide +kernel)) (fun _ _ _ _ _ => (pg_name (i := 7) sc_law_least.nd rfl (.inl rfl))) (fun _ _ _ _ _ => pts_one (pt_cmpR (k_in (K := K)) (pv 8) (pe_tup (pa_cons (pe_ix (k_ix (K := K)) (pv 7) pe_int (fun _ _ => rfl)) (pa_cons (pe_op op_addA (pv 4) (pe_ix (k_ix (K := K)) (pv 7) pe_int (fun _ _ => rfl))) pa_nil))) (by rfl))) (fun _ _ _ _ _ => pe_int)) (pe_lst pa_nil) (nomark _))) (fun _ _ _ _ _ => (pv 8)))))) (pss_one (ps_set (i := 3) sc_law_least.nd rfl (.inl rfl) (pe_op op_addA (pv 3) (pv 5)))))
      (pss_one (ps_set (i := 2) sc_law_least.nd rfl (.inr rfl) (pv 6)))))))
      (pss_one (ps_ret (pe_ifExp (pt_cmpR (k_eq (K := K) hr.units) (pv 2) (pe_lst pa_nil) (nomark _)) (pe_callB (k_sorted (K := K)) (by rfl) T.sorted_ (by decide +kernel) (pa_cons (pv 3) pa_nil)) pe_non))))), ?_⟩
    refine q_asgD Tr1 (Ex.refl _) (den_tup (dena_cons (den_call (dena_cons (den_var rfl h1) (dena_cons (den_var rfl h2) dena_nil)) ⟨hh, wd, ps, pg, k, rfl, rfl⟩) (dena_cons (den_lst dena_nil (by show 0 ≤ 100000; decide)) (dena_cons (den_len_pic (den_var rfl h1)) dena_nil))) (by show 3 ≤ 100000; decide)) asg_triple fun σ' H1 e1 ⟨xl, xf, xh, hxl, hxf, hxh, es⟩ => ?_
    subst es
    cases hxh
    have g1 := h1.up (hide_up (S := S) e1)
    have g2 := h2.up (hide_up (S := S) e1)
    -- the end
    have fin : ∀ (xl xf : V) (y5 y6 y7 y8 : Option V) (left : List (Nat × Nat)) (F : List Nat) (H' : Hp), Ex H H' → Dn (hide S H') xl (.list (left.map cellD)) → Dn (hide S H') xf (.list (natL F)) → (if left = [] then some F else none) = LP.lawLeast hh wd ps pg →
        tRet (tIf (tTest (tOp (rEqA K) (tVar 2) (tLst tNil))) (tCB (rSortedI K) (tCons (tVar 3) tNil)) (tC .non)) { nx := fun _ H' => Q .non H', rt := Q } [some v1, some v2, some xl, some xf, some (.int (hh : Int)), y5, y6, y7, y8] H' := fun xl xf y5 y6 y7 y8 left F H' eH hl hf e => by
      have T' := Tr1.up eH
      refine tst_test (den_op (den_var rfl hl) (den_lst dena_nil (by show 0 ≤ 100000; decide)) (rd_eqL (Ok.list (Ok.cells left)) (by decide))) S H' T' (Ex.refl _) _ fun H2 e2 => ?_
      by_cases hn : left = []
      · rw [if_pos hn] at e
        subst hn
        have hf2 := hf.up (hide_up (S := S) e2)
        cases hf2 with
        | @lst b xs _ hb hx =>
          have hxs : xs = (F.map fun (n : Nat) => (n : Int)).map V.int := by
            have : DnAll (hide S H2) xs ((F.map fun (n : Nat) => (n : Int)).map PyData.int) := by
              rw [List.map_map]
              exact hx
            exact this.ints
          refine ⟨.ref b, rfl, b, F.map fun (n : Nat) => (n : Int), rfl, .inl (.inl (by rw [← hxs]; exact hide_le b _ hb)), fun ns' p pm pw hp => ?_⟩
          refine q (.ref p) (.list (ns'.map .int)) _ ((eH.trans e2).trans (Ex.new hp)) (.lst (hide_new (T'.up e2) hp) (dn_intL ns')) ?_
          rw [← e]
          refine ⟨_, rfl, ?_⟩
          rw [List.length_map, pm.length_eq, List.length_map]
      · rw [if_neg hn] at e
        have hb : (left.map cellD).isEmpty = false := by
          cases left with
          | nil => exact absurd rfl hn
          | cons _ _ => rfl
        rw [hb]
        refine q .non .none H2 (eH.trans e2) .non ?_
        rw [← e]
    refine q_forD (LP.layers hh wd pg) (fun s => .list (natL s)) (Tr1.up e1) (Ex.refl _) (it_list (den_call (dena_cons (den_var rfl g2) dena_nil) ⟨hh, wd, pg, k, rfl, rfl⟩)) fun H2 e2 => ?_
    refine ⟨fun i σ' H' => ∃ (xl xf : V) (y5 y6 y7 y8 : Option V) (left : List (Nat × Nat)) (F : List Nat), σ' = [some v1, some v2, some xl, some xf, some (.int (hh : Int)), y5, y6, y7, y8] ∧ Ex H2 H' ∧ Dn (hide S H') xl (.list (left.map cellD)) ∧ Dn (hide S H') xf (.list (natL F)) ∧
      left.length ≤ 900 ∧ F.length ≤ i * 60 ∧ LP.lawGo hh ((LP.layers hh wd pg).drop i) left F = LP.lawLeast hh wd ps pg,
      ⟨xl, xf, none, none, none, none, LP.differ hh wd ps pg, [], rfl, Ex.refl _, hxl.up (hide_up e2), hxf.up (hide_up e2), differ_len k, Nat.zero_le _, rfl⟩, fun _ _ _ ⟨_, _, _, _, _, _, _, _, _, e, _⟩ => hide_le.trans e, ?_, ?_⟩
    · rintro i a σ' H' v H'' hget ⟨xl, xf, y5, y6, y7, y8, left, F, rfl, e3, hl, hf, hll, hfl, hgo⟩ e4 hv
      have hi : i < (LP.layers hh wd pg).length := (List.getElem?_eq_some_iff.mp hget).1
      have hi60 : i < 60 := Nat.lt_of_lt_of_le hi (Nat.le_trans (LP.layers_len hh wd pg) (by omega))
      have hdrop : (LP.layers hh wd pg).drop i = a :: (LP.layers hh wd pg).drop (i + 1) := by
        rw [List.drop_eq_getElem_cons hi]
        congr 1
        exact (List.getElem?_eq_some_iff.mp hget).2
      have asz := LP.layers_size (List.mem_of_getElem? hget)
      have T3 := (Tr1.up e1).up (e2.trans e3)
      have T4 := T3.up e4
      have l4 := hl.up (hide_up (S := S) e4)
      have f4 := hf.up (hide_up (S := S) e4)
      refine asg_name S H'' v T4 (hv S T3 (hide_up e3)) _ fun σ2 ⟨x, hx, ex⟩ => ?_
      subst ex
      rw [hdrop] at hgo
      unfold LP.lawGo at hgo
      refine q_whenD T4 (Ex.refl _) (tst_test (den_op (den_var rfl l4) (den_lst dena_nil (by show 0 ≤ 100000; decide)) (rd_eqL (Ok.list (Ok.cells left)) (by decide)))) (fun hb H5 e5 => ?_) fun hb H5 e5 => ?_
      · have hn : left = [] := List.map_eq_nil_iff.mp (List.isEmpty_iff.mp hb)
        rw [if_pos hn] at hgo
        exact fin xl xf _ _ _ _ left F H5 (((e1.trans e2).trans e3).trans (e4.trans e5)) (l4.up (hide_up e5)) (f4.up (hide_up e5)) (by rw [if_pos hn]; exact hgo)
      · have hne : left ≠ [] := fun z => by
          subst z
          cases hb
        rw [if_neg hne] at hgo
        have T5 := T4.up e5
        have l5 := l4.up (hide_up (S := S) e5)
        have f5 := f4.up (hide_up (S := S) e5)
        have x5 := hx.up (hide_up (S := S) e5)
        refine q_setD T5 (Ex.refl _) (Den.to (den_lc left cellD _ (fun c => !LP.meets hh c a) cellD (it_list (den_var rfl l5)) (by omega) (fun _ _ => asg_name) fun c hc B1 σ1 eB ⟨y, hy, ey⟩ => by
          subst ey
          refine ⟨rfl, Tst.to (tst_and (tst_test (den_op (den_op (den_var rfl hy) den_int (rd_ixT (d := .int (c.1 : Int)) (j := 0) rfl)) (den_var rfl (x5.up eB)) (rd_inL (neg := true) rfl (flat_nat _)))) fun _ => tst_test (den_op (Den.to (d' := .int ((hh + c.2 : Nat) : Int)) (den_op (den_var rfl (.int (hh : Int))) (den_op (den_var rfl hy) den_int (rd_ixT (d := .int (c.2 : Int)) (j := 1) rfl)) rd_addI) (by rw [Int.natCast_add])) (den_var rfl (x5.up eB)) (rd_inL (neg := true) rfl (flat_nat _)))) ?_, fun _ => den_var rfl hy⟩
          rw [if_pos rfl, if_pos rfl, inD_nat, inD_nat]
          unfold LP.meets
          rw [Bool.not_or]) (show _ = PyData.list ((LP.rest hh a left).map cellD) from rfl)) fun xr H6 e6 hr6 => ?_
        have T6 := T5.up e6
        have l6 := l5.up (hide_up (S := S) e6)
        have f6 := f5.up (hide_up (S := S) e6)
        have x6 := x5.up (hide_up (S := S) e6)
        have hrl : (LP.rest hh a left).length ≤ 900 := Nat.le_trans (List.length_filter_le _ _) hll
        have hnl : (LP.needed hh a left).length ≤ 60 := Nat.le_trans (List.length_filter_le _ _) (by omega)
        have e36 := ((e3.trans e4).trans e5).trans e6
        refine q_ifD T6 (Ex.refl _) (tst_test (den_op (den_var rfl hr6) (den_lst dena_nil (by show 0 ≤ 100000; decide)) (rd_eqL (Ok.list (Ok.cells _)) (by decide)))) (fun hb6 H7 e7 => ?_) fun hb6 H7 e7 => ?_
        · have hn6 : LP.rest hh a left = [] := List.map_eq_nil_iff.mp (List.isEmpty_iff.mp hb6)
          have T7 := T6.up e7
          have l7 := l6.up (hide_up (S := S) e7)
          have x7 := x6.up (hide_up (S := S) e7)
          refine s_setD T7 (Ex.refl _) (den_op (den_var rfl (f6.up (hide_up e7))) (Den.to (den_lc a (fun (l : Nat) => PyData.int (l : Int)) _ (fun l => left.any fun c => LP.hit hh c l) (fun (l : Nat) => .int (l : Int)) (it_list (den_var rfl x7)) (by omega) (fun _ _ => asg_name) fun l hlm B1 σ1 eB ⟨y, hy, ey⟩ => by
            subst ey
            refine ⟨rfl, Tst.to (tst_test (den_op (den_lc left cellD _ (fun c => LP.hit hh c l) (fun _ => .int 1) (it_list (den_var rfl (l7.up eB))) (by omega) (fun _ _ => asg_name) fun c hc B2 σ2 eB2 ⟨z, hz, ez⟩ => by
              subst ez
              exact ⟨rfl, Tst.to (tst_test (den_op (den_var rfl (hy.up eB2)) (den_tup (dena_cons (den_op (den_var rfl hz) den_int (rd_ixT (d := .int (c.1 : Int)) (j := 0) rfl)) (dena_cons (Den.to (d' := .int ((hh + c.2 : Nat) : Int)) (den_op (den_var rfl (.int (hh : Int))) (den_op (den_var rfl hz) den_int (rd_ixT (d := .int (c.2 : Int)) (j := 1) rfl)) rd_addI) (by rw [Int.natCast_add])) dena_nil)) (by show 2 ≤ 100000; decide)) (rd_inT (neg := false) rfl rfl))) (by rw [if_neg Bool.false_ne_true, inD_hit]), fun _ => den_int⟩) (den_lst dena_nil (by show 0 ≤ 100000; decide)) (rd_neL (n := 1) (Ok.list fun x hx => by
                obtain ⟨_, _, rfl⟩ := List.mem_map.mp hx
                exact .int) (by decide)))) (by rw [List.isEmpty_map, any_filter]), fun _ => den_var rfl hy⟩) (show _ = PyData.list (natL (LP.needed hh a left)) from rfl)) (rd_addL (by unfold natL; rw [List.length_map, List.length_map]; omega))) fun xf2 H8 e8 hf8 => ?_
          rw [natL_app] at hf8
          refine s_setD (T7.up e8) (Ex.refl _) (den_var (i := 6) rfl (hr6.up (hide_up (e7.trans e8)))) fun xl2 H9 e9 hl9 => ?_
          exact ⟨xl2, xf2, some x, some xr, y7, y8, LP.rest hh a left, _, rfl, (e36.trans (e7.trans e8)).trans e9, hl9, hf8.up (hide_up e9), hrl, by rw [List.length_append]; omega, by rw [if_pos hn6] at hgo; exact hgo⟩
        · have hn6 : LP.rest hh a left ≠ [] := fun z => by
            rw [z] at hb6
            cases hb6
          have T7 := T6.up e7
          refine s_setD T7 (Ex.refl _) (den_op (den_var rfl (f6.up (hide_up e7))) (den_var rfl (x6.up (hide_up e7))) (rd_addL (by unfold natL; rw [List.length_map, List.length_map]; omega))) fun xf2 H8 e8 hf8 => ?_
          rw [natL_app] at hf8
          refine s_setD (T7.up e8) (Ex.refl _) (den_var (i := 6) rfl (hr6.up (hide_up (e7.trans e8)))) fun xl2 H9 e9 hl9 => ?_
          exact ⟨xl2, xf2, some x, some xr, y7, y8, LP.rest hh a left, _, rfl, (e36.trans (e7.trans e8)).trans e9, hl9, hf8.up (hide_up e9), hrl, by rw [List.length_append]; omega, by rw [if_neg hn6] at hgo; exact hgo⟩
    · rintro σ' H' ⟨xl, xf, y5, y6, y7, y8, left, F, rfl, e3, hl, hf, hll, hfl, hgo⟩
      rw [List.drop_length] at hgo
      unfold LP.lawGo at hgo
      exact fin xl xf _ _ _ _ left F H' ((e1.trans e2).trans e3) hl hf hgo
theorem ok_law_few (T : Tx mg) (h : At K mg "_law_few" s_law_few ["_law_start_here", "_law_goal"]) (c_law_least : Prom P w K mg base "_law_least" ["_law_start_here", "_law_goal"] 2 (SpC RLawLeast)) : Prom P w K mg base "_law_few" ["_law_start_here", "_law_goal"] 3 (SpR RFew) := by
  refine prom_R h sc_law_few (fun ds d hR => by obtain ⟨_, _, _, _, _, rfl, _⟩ := hR; rfl) fun f cdv A outer s H vs Q E S ds d hr Tr1 hv hR q => ?_
  obtain ⟨hh, wd, ps, pg, k, rfl, rfl⟩ := hR
  cases hv with
  | @cons v1 _ _ _ h1 t =>
   cases t with
   | @cons v2 _ _ _ h2 t =>
    cases t
    refine ⟨_, (pss_cons (ps_set (i := 2) sc_law_few.nd rfl (.inl rfl) (pe_callP c_law_least (hr.mono (by decide)) (by rfl) (pa_cons (pv 0) (pa_cons (pv 1) pa_nil))))
      (pss_one (ps_ret (pe_ifExp (pt_cmpR op_notNA (pv 2) pe_non (nomark _)) (pe_callB (k_len (K := K)) (by rfl) T.len_ (by decide +kernel) (pa_cons (pv 2) pa_nil)) pe_non)))), ?_⟩
    refine ⟨v1, rfl, v2, rfl, ?_⟩
    refine ⟨S, [picD hh wd ps, picD hh wd pg], _, Tr1, .cons h1 (.cons h2 .nil), ⟨hh, wd, ps, pg, k, rfl, rfl⟩, fun v d H1 e1 hv hC => ?_⟩
    rw [← LP.lawFew_eq] at q
    unfold LP.lawFew at q
    generalize LP.lawLeast hh wd ps pg = o at hC q
    have T1 := Tr1.up e1
    cases o with
    | none =>
      have hC : d = .none := hC
      subst hC
      exact s_retD (σ := (start n_law_few [v1, v2]).set 2 (some v)) T1 (Ex.refl _) (den_if (tst_test (den_op (den_var (i := 2) rfl hv) den_non rd_notN)) (fun hb => by cases hb) fun _ => den_non) fun v5 H5 e5 hv5 => q v5 H5 (e1.trans e5) hv5
    | some F =>
      obtain ⟨l, rfl, hl⟩ := hC
      exact s_retD (σ := (start n_law_few [v1, v2]).set 2 (some v)) T1 (Ex.refl _) (den_if (tst_test (den_op (den_var (i := 2) rfl hv) den_non rd_notN)) (fun _ => Den.to (den_cb (dena_cons (den_var (i := 2) rfl hv) dena_nil) rc_lenL) (by rw [hl]; rfl)) fun hb => by cases hb) fun v5 H5 e5 hv5 => q v5 H5 (e1.trans e5) hv5
end
end LPW

/-! ## LpL6 -/
/-! law_alike, law_picture, law_start. -/
namespace LPW
open PySem PySem.Spec PyProof.Rows L2 Evl

section
variable {K : PySem.W.Frag} {σ : L2.St} {B H : Hp} {S : List Addr} {te ta tb : TE} {tu tz : TS} {D : Ends} {d d1 d2 d3 : PyData} {r a : Addr} {scp : List Int} {C C1 C2 : PyData → Prop}
theorem tyx_of {x : V} (hd : Dn (hide S H) x d) : TyX K H x (.type (tyD d)) := by
  cases hd with
  | non => exact .base .non
  | bl y => exact .base (.bl y)
  | int y => exact .base (.int y)
  | str y => exact .base (.str y)
  | lst ha _ => exact .base (.lst (hide_le _ _ ha))
  | tup ha _ => exact .base (.tup (hide_le _ _ ha))
theorem kit_two {K : PySem.W.Frag} {s : String} {b1 b2 : Bool} (h1 : kitB s "tuple" = some b1) (h2 : kitB s "list" = some b2) : PySem.W.kitAny K (.type s) [.type "tuple", .type "list"] = some (b1 || b2) := by
  refine kitAny_cons (b := b1) (kit_ty h1) (fun e => ?_) fun e => by rw [e]; rfl
  subst e
  refine kitAny_cons (b := b2) (kit_ty h2) (fun e => ?_) fun e => by rw [e]; rfl
  subst e
  rfl
theorem den_isiT {b1 b2 : Bool} (h : Den ta σ B d) (h1 : kitB (tyD d) "tuple" = some b1) (h2 : kitB (tyD d) "list" = some b2) : Den (tCB (rIsiT K) (tCons ta (tCons (tTup (tCons (tC (.ty "tuple")) (tCons (tC (.ty "list")) tNil))) tNil))) σ B (.bool (b1 || b2)) := fun S H1 T e Q q =>
  h S H1 T e _ fun x H2 e2 hx => ⟨sz_of (by show 2 ≤ 100000; decide), fun p hp => ⟨x, p, [.ty "tuple", .ty "list"], _, [.type "tuple", .type "list"], _, rfl, upd_same, .cons (.ty _) (.cons (.ty _) .nil), tyx_of (S := S) (hx.up (hide_up (Ex.new hp))), kit_two h1 h2, q _ _ (e2.trans (Ex.new hp)) (.bl _)⟩⟩
theorem q_parDD {i j : Nat} (T : Tr S H) (R : Row K S H r a scp) (e : Ex B (hide S H)) (h1 : DenD K r a scp ta σ B C1) (h2 : DenD K r a scp tb σ B C2)
    (k : ∀ x y d1 d2 H1, Mv r H H1 → Row K S H1 r a scp → Dn (hide S H1) x d1 → Dn (hide S H1) y d2 → C1 d1 → C2 d2 → tz D ((σ.set i (some x)).set j (some y)) H1) : tSeq (tPar i j (tCons ta (tCons tb tNil))) tz D σ H :=
  h1 S H T R e _ fun x d1 H1 m1 R1 hx c1 => h2 S H1 (T.mv m1 R1) R1 (e.trans (m1.ex R1.mem)) _ fun y d2 H2 m2 R2 hy c2 => ⟨x, y, rfl, k x y d1 d2 H2 (m1.trans m2) R2 (hx.up (m2.ex R2.mem)) hy c1 c2⟩
theorem denD_callR {RR : List PyData → PyData → Prop} {tr : TA} {Cs : List PyData → Prop} {E : XK} (h : DenAD K r a scp tr σ B Cs) (hR : ∀ ds, Cs ds → ∃ d, RR ds d ∧ C d) : DenD K r a scp (tCall (SpR RR) [] E tr) σ B C := fun S H1 T R e Q q =>
  h S H1 T R e _ fun vs ds H2 m2 R2 hv cs => by
    obtain ⟨d, hr, cd⟩ := hR ds cs
    show SpR RR (vs ++ []) H2 Q E
    rw [List.append_nil]
    exact ⟨S, ds, d, T.mv m2 R2, hv, hr, fun v H' e3 hv' => q v d H' (m2.trans (mv_of e3)) (R2.ex e3) hv' cd⟩
def isB : PyData → Prop := fun d => ∃ b, d = .bool b
theorem denD_or (h1 : DenD K r a scp ta σ B isB) (h2 : DenD K r a scp tb σ B isB) : DenD K r a scp (tOrV ta tb) σ B isB := fun S H1 T R e Q q =>
  h1 S H1 T R e _ fun x d H2 m2 R2 hx ⟨b, hb⟩ => by
    subst hb
    cases hx
    refine ⟨b, rfl, ?_⟩
    cases b with
    | true =>
      show Q (.bl true) H2
      exact q _ _ H2 m2 R2 (.bl true) ⟨true, rfl⟩
    | false =>
      show tb σ H2 Q
      exact h2 S H2 (T.mv m2 R2) R2 (e.trans (m2.ex R2.mem)) Q fun v d H3 m3 R3 hv cd => q v d H3 (m2.trans m3) R3 hv cd
theorem denD_and (h1 : DenD K r a scp ta σ B isB) (h2 : DenD K r a scp tb σ B isB) : DenD K r a scp (tAndV ta tb) σ B isB := fun S H1 T R e Q q =>
  h1 S H1 T R e _ fun x d H2 m2 R2 hx ⟨b, hb⟩ => by
    subst hb
    cases hx
    refine ⟨b, rfl, ?_⟩
    cases b with
    | true =>
      show tb σ H2 Q
      exact h2 S H2 (T.mv m2 R2) R2 (e.trans (m2.ex R2.mem)) Q fun v d H3 m3 R3 hv cd => q v d H3 (m2.trans m3) R3 hv cd
    | false =>
      show Q (.bl false) H2
      exact q _ _ H2 m2 R2 (.bl false) ⟨false, rfl⟩
/-- a, b, x = .., .., [] -/
theorem q_par3L {i j l : Nat} (T : Tr S H) (e : Ex B (hide S H)) (h1 : Den ta σ B d1) (h2 : Den tb σ B d2)
    (k : ∀ x y L H2, Ex H H2 → H L = none → Tr (L :: S) H2 → H2 L = some (.lst []) → Ex (hide S H) (hide (L :: S) H2) → Dn (hide (L :: S) H2) x d1 → Dn (hide (L :: S) H2) y d2 → tz D (((σ.set i (some x)).set j (some y)).set l (some (.ref L))) H2) :
    tSeq (tPar3 i j l (tCons ta (tCons tb (tCons (tLst tNil) tNil)))) tz D σ H :=
  h1 S H T e _ fun x H1 e1 hx => h2 S H1 (T.up e1) (e.trans (hide_up e1)) _ fun y H2 e2 hy => ⟨Nat.zero_le _, fun L hL => ⟨x, y, .ref L, rfl, by
    have e12 := e1.trans e2
    have o : Ex (hide S H2) (hide (L :: S) (upd H2 L (.lst []))) := hide_open hL (Ex.new hL)
    exact k x y L _ (e12.trans (Ex.new hL)) (fresh_back e12 hL) (((T.up e12).up (Ex.new hL)).cons upd_same) upd_same ((hide_up e12).trans o) ((hx.up (hide_up e2)).up o) (hy.up o)⟩⟩
theorem Row.open {H2 : Hp} {L : Addr} (R : Row K S H r a scp) (e : Ex H H2) (o : Ex (hide S H) (hide (L :: S) H2)) : Row K (L :: S) H2 r a scp := by
  obtain ⟨i, s, z, h, hi⟩ := R.at_
  exact ⟨List.mem_cons_of_mem _ R.mem, sqL_up R.scr o, R.len, i, s, z, e _ _ h, hi⟩
theorem row_tr {L : Addr} {xs : List V} {H' : Hp} (R : Row K (L :: S) H' r a scp) (T : Tr S H) (m : Mv r H H') (nL : L ≠ r) (h : H' L = some (HO.lst xs)) : Tr (L :: S) H' := fun c hc => by
  rcases List.mem_cons.mp hc with z | hc
  · rw [z]
    exact ⟨_, h, fun _ z => by cases z⟩
  · exact T.mv m (R.pop nL) c hc
end
section
variable {P : Program} {w : World} {K : PySem.W.Frag} {mg : Str → Option Value} {base : Heap}
/-! ### law_alike: of a datum and itself -/
def leaf (d : PyData) : Prop := d = .none ∨ (∃ b, d = .bool b) ∨ ∃ i, d = .int i
def Al : Nat → PyData → Prop
  | 0, _ => False
  | n + 1, d => leaf d ∨ ∃ l : List PyData, (d = .list l ∨ d = .tuple l) ∧ l.length ≤ 1000 ∧ ∀ x ∈ l, Al n x
def RAl (n : Nat) : List PyData → PyData → Prop := fun ds d => ∃ x, Al n x ∧ ds = [x, x] ∧ d = .bool true
theorem ok_law_alike (T : Tx mg) (h : At K mg "_law_alike" s_law_alike ["_law_found", "_law_due"]) : ∀ n, Prom P w K mg base "_law_alike" ["_law_found", "_law_due"] (n + 1) (SpR (RAl n))
  | 0 => prom_R h sc_law_alike (fun ds d hR => by obtain ⟨x, hx, _⟩ := hR; exact hx.elim) fun f cdv A outer s H vs Q E S ds d hr Tr1 hv hR q => by
    obtain ⟨x, hx, _⟩ := hR
    exact hx.elim
  | n + 1 => by
    have c_law_alike := ok_law_alike T h n
    refine prom_R h sc_law_alike (fun ds d hR => by obtain ⟨x, _, rfl, _⟩ := hR; rfl) fun f cdv A outer s H vs Q E S ds d hr Tr1 hv hR q => ?_
    obtain ⟨x, hx, rfl, rfl⟩ := hR
    cases hv with
    | @cons v1 _ _ _ h1 t =>
     cases t with
     | @cons v2 _ _ _ h2 t =>
      cases t
      refine ⟨_, (pss_cons (ps_if (pt_val (pe_callB (k_isiT (K := K)) (by rfl) T.isinstance_ (by decide +kernel) (pa_cons (pv 1) (pa_cons (pe_tup (pa_cons (pe_tyv (T := "tuple") T.tuple_ (by rfl) (by decide +kernel)) (pa_cons (pe_tyv (T := "list") T.list_ (by rfl) (by decide +kernel)) pa_nil))) pa_nil)))) (pss_cons (ps_if (PW.pt (pw_or (pt_not (pt_val (pe_callB (k_isiT (K := K)) (by rfl) T.isinstance_ (by decide +kernel) (pa_cons (pv 0) (pa_cons (pe_tup (pa_cons (pe_tyv (T := "tuple") T.tuple_ (by rfl) (by decide +kernel)) (pa_cons (pe_tyv (T := "list") T.list_ (by rfl) (by decide +kernel)) pa_nil))) pa_nil))))) (pw_or1 (pt_cmpR (k_ne (K := K) hr.units) (pe_callB (k_isi (K := K)) (by rfl) T.isinstance_ (by decide +kernel) (pa_cons (pv 0) (pa_cons (pe_tyv (T := "list") T.list_ (by rfl) (by decide +kernel)) pa_nil))) (pe_callB (k_isi (K := K)) (by rfl) T.isinstance_ (by decide +kernel) (pa_cons (pv 1) (pa_cons (pe_tyv (T := "list") T.list_ (by rfl) (by decide +kernel)) pa_nil))) (nomark _))))) (pss_one (ps_ret pe_bl)) pss_nil)
      (pss_cons (ps_if (pt_cmpR (k_ne (K := K) hr.units) (pe_callB (k_len (K := K)) (by rfl) T.len_ (by decide +kernel) (pa_cons (pv 0) pa_nil)) (pe_callB (k_len (K := K)) (by rfl) T.len_ (by decide +kernel) (pa_cons (pv 1) pa_nil)) (nomark _)) (pss_one (ps_ret pe_bl)) pss_nil)
      (pss_one (ps_ret (pe_cmpR (k_eq (K := K) hr.units) (pe_lc (own := [("_law_k", 2)])  rfl sc_law_alike.nd (pi_range1 (by rfl) T.range_ (pa_cons (pe_callB (k_len (K := K)) (by rfl) T.len_ (by decide +kernel) (pa_cons (pv 1) pa_nil)) pa_nil)) (blkOk_by (N := n_law_alike) (sc := defScope s_law_alike) (by decide +kernel)) (fun _ _ _ _ _ => (pg_name (i := 2) sc_law_alike.nd rfl (.inl rfl))) (fun _ _ _ _ _ => pts_one (pt_not (pt_val (pe_callP c_law_alike (hr.mono (Nat.le_refl _)) (by rfl) (pa_cons (pe_ix (k_ix (K := K)) (pv 0) (pv 2) (fun _ _ => rfl)) (pa_cons (pe_ix (k_ix (K := K)) (pv 1) (pv 2) (fun _ _ => rfl)) pa_nil)))))) (fun _ _ _ _ _ => (pv 2))) (pe_lst pa_nil) (nomark _)))))) pss_nil)
      (pss_cons (ps_if (PW.pt (pw_or (pt_cmpR op_isNA (pv 1) pe_non (nomark _)) (pw_or1 (pt_val (pe_callB (k_isi (K := K)) (by rfl) T.isinstance_ (by decide +kernel) (pa_cons (pv 1) (pa_cons (pe_tyv (T := "str") T.str_ (by rfl) (by decide +kernel)) pa_nil))))))) (pss_one (ps_ret (pe_and (pe_cmpR (k_eq (K := K) hr.units) (pv 0) (pv 1) (nomark _)) (pe_one (pe_cmpR (k_eq (K := K) hr.units) (pe_callB (k_isi (K := K)) (by rfl) T.isinstance_ (by decide +kernel) (pa_cons (pv 0) (pa_cons (pe_tyv (T := "str") T.str_ (by rfl) (by decide +kernel)) pa_nil))) (pe_callB (k_isi (K := K)) (by rfl) T.isinstance_ (by decide +kernel) (pa_cons (pv 1) (pa_cons (pe_tyv (T := "str") T.str_ (by rfl) (by decide +kernel)) pa_nil))) (nomark _)))))) pss_nil)
      (pss_one (ps_ret (pe_and (pe_callB (k_isi (K := K)) (by rfl) T.isinstance_ (by decide +kernel) (pa_cons (pv 0) (pa_cons (pe_tyv (T := "int") T.int_ (by rfl) (by decide +kernel)) pa_nil))) (pe_and (pe_cmpR (k_eq (K := K) hr.units) (pe_callB (k_isi (K := K)) (by rfl) T.isinstance_ (by decide +kernel) (pa_cons (pv 0) (pa_cons (pe_tyv (T := "bool") T.bool_ (by rfl) (by decide +kernel)) pa_nil))) (pe_callB (k_isi (K := K)) (by rfl) T.isinstance_ (by decide +kernel) (pa_cons (pv 1) (pa_cons (pe_tyv (T := "bool") T.bool_ (by rfl) (by decide +kernel)) pa_nil))) (nomark _)) (pe_one (pe_cmpR (k_eq (K := K) hr.units) (pv 0) (pv 1) (nomark _))))))))), ?_⟩
      rcases hx with hlf | ⟨l, hl, hlen, hall⟩
      · -- a leaf
        have k1 : kitB (tyD x) "tuple" = some false := by
          rcases hlf with rfl | ⟨b, rfl⟩ | ⟨i, rfl⟩
          · exact (show kitB "NoneType" "tuple" = some false by decide +kernel)
          · exact (show kitB "bool" "tuple" = some false by decide +kernel)
          · exact (show kitB "int" "tuple" = some false by decide +kernel)
        have k2 : kitB (tyD x) "list" = some false := by
          rcases hlf with rfl | ⟨b, rfl⟩ | ⟨i, rfl⟩
          · exact (show kitB "NoneType" "list" = some false by decide +kernel)
          · exact (show kitB "bool" "list" = some false by decide +kernel)
          · exact (show kitB "int" "list" = some false by decide +kernel)
        have k3 : kitB (tyD x) "str" = some false := by
          rcases hlf with rfl | ⟨b, rfl⟩ | ⟨i, rfl⟩
          · exact (show kitB "NoneType" "str" = some false by decide +kernel)
          · exact (show kitB "bool" "str" = some false by decide +kernel)
          · exact (show kitB "int" "str" = some false by decide +kernel)
        refine q_skip Tr1 (Ex.refl _) (tst_B (den_isiT (b1 := false) (b2 := false) (den_var rfl h2) k1 k2)) fun H1 e1 => ?_
        have T1 := Tr1.up e1
        have g1 := h1.up (hide_up (S := S) e1)
        have g2 := h2.up (hide_up (S := S) e1)
        rcases hlf with rfl | ⟨b, rfl⟩ | ⟨i, rfl⟩
        · refine q_whenD T1 (Ex.refl _) (tst_or (a := true) (tst_test (den_op (den_var rfl g2) den_non rd_isN)) fun z => nomatch z) (b := true || false) (fun _ H2 e2 => ?_) fun z => nomatch z
          refine s_retD (T1.up e2) (Ex.refl _) (den_andV (a := true) (b := true) (den_op (den_var rfl (g1.up (hide_up e2))) (den_var rfl (g2.up (hide_up e2))) rd_eqN) fun _ => den_op (den_isi (den_var rfl (g1.up (hide_up e2))) k3) (den_isi (den_var rfl (g2.up (hide_up e2))) k3) (rd_eqB (i := false) (j := false))) fun v5 H5 e5 hv5 => q v5 H5 ((e1.trans e2).trans e5) hv5
        · refine q_skip T1 (Ex.refl _) (tst_or (a := false) (b := false) (tst_test (den_op (den_var rfl g2) den_non rd_isN)) fun _ => tst_B (den_isi (den_var rfl g2) k3)) fun H2 e2 => ?_
          have kb : kitB (tyD (.bool b)) "bool" = some true := show kitB "bool" "bool" = some true by decide +kernel
          have ki : kitB (tyD (.bool b)) "int" = some true := show kitB "bool" "int" = some true by decide +kernel
          have f1 := g1.up (hide_up (S := S) e2)
          have f2 := g2.up (hide_up (S := S) e2)
          refine s_retD (T1.up e2) (Ex.refl _) (Den.to (den_andV (a := true) (den_isi (den_var rfl f1) ki) fun _ => den_andV (a := true) (den_op (den_isi (den_var rfl f1) kb) (den_isi (den_var rfl f2) kb) (rd_eqB (i := true) (j := true))) fun _ => den_op (den_var rfl f1) (den_var rfl f2) rd_eqB) ?_) fun v5 H5 e5 hv5 => q v5 H5 ((e1.trans e2).trans e5) hv5
          rw [decide_eq_true rfl]
          rfl
        · refine q_skip T1 (Ex.refl _) (tst_or (a := false) (b := false) (tst_test (den_op (den_var rfl g2) den_non rd_isN)) fun _ => tst_B (den_isi (den_var rfl g2) k3)) fun H2 e2 => ?_
          have kb : kitB (tyD (.int i)) "bool" = some false := show kitB "int" "bool" = some false by decide +kernel
          have ki : kitB (tyD (.int i)) "int" = some true := show kitB "int" "int" = some true by decide +kernel
          have f1 := g1.up (hide_up (S := S) e2)
          have f2 := g2.up (hide_up (S := S) e2)
          refine s_retD (T1.up e2) (Ex.refl _) (Den.to (den_andV (a := true) (den_isi (den_var rfl f1) ki) fun _ => den_andV (a := true) (den_op (den_isi (den_var rfl f1) kb) (den_isi (den_var rfl f2) kb) (rd_eqB (i := false) (j := false))) fun _ => den_op (den_var rfl f1) (den_var rfl f2) rd_eqI) ?_) fun v5 H5 e5 hv5 => q v5 H5 ((e1.trans e2).trans e5) hv5
          rw [decide_eq_true rfl]
          rfl
      · -- a list or a tuple
        obtain ⟨b1, b2, k1, k2, kb⟩ : ∃ b1 b2, kitB (tyD x) "tuple" = some b1 ∧ kitB (tyD x) "list" = some b2 ∧ (b1 || b2) = true := by
          rcases hl with rfl | rfl
          · exact ⟨false, true, show kitB "list" "tuple" = some false by decide +kernel, show kitB "list" "list" = some true by decide +kernel, rfl⟩
          · exact ⟨true, false, show kitB "tuple" "tuple" = some true by decide +kernel, show kitB "tuple" "list" = some false by decide +kernel, rfl⟩
        have dlen : ∀ {te : TE} {σ : L2.St} {B : Hp}, Den te σ B x → Den (tCB (rLenA K) (tCons te tNil)) σ B (.int (l.length : Nat)) := fun {te σ B} hd => by
          rcases hl with rfl | rfl
          · exact den_cb (dena_cons hd dena_nil) rc_lenL
          · exact den_cb (dena_cons hd dena_nil) rc_lenT
        have dix : ∀ {te ti : TE} {σ : L2.St} {B : Hp} {j : Nat}, Den te σ B x → Den ti σ B (.int (j : Int)) → (hj : j < l.length) → Den (tOp (rIx K) te ti) σ B l[j] := fun {te ti σ B j} hd hi hj => by
          rcases hl with rfl | rfl
          · exact den_op hd hi (rd_ixL (List.getElem?_eq_getElem hj))
          · exact den_op hd hi (rd_ixT (List.getElem?_eq_getElem hj))
        refine q_whenD Tr1 (Ex.refl _) (Tst.to (tst_B (den_isiT (den_var rfl h2) k1 k2)) kb) (fun _ H1 e1 => ?_) fun z => nomatch z
        have T1 := Tr1.up e1
        have g1 := h1.up (hide_up (S := S) e1)
        have g2 := h2.up (hide_up (S := S) e1)
        refine q_skip T1 (Ex.refl _) (Tst.to (tst_or (a := !(b1 || b2)) (tst_not (tst_B (den_isiT (den_var rfl g1) k1 k2))) fun _ => tst_test (den_op (den_isi (den_var rfl g1) k2) (den_isi (den_var rfl g2) k2) rd_neB)) (by rw [kb, decide_eq_true rfl]; rfl)) fun H2 e2 => ?_
        have f1 := g1.up (hide_up (S := S) e2)
        have f2 := g2.up (hide_up (S := S) e2)
        refine q_skip (T1.up e2) (Ex.refl _) (Tst.to (tst_test (den_op (dlen (den_var rfl f1)) (dlen (den_var rfl f2)) rd_neI)) (by rw [decide_eq_true rfl]; rfl)) fun H3 e3 => ?_
        have i1 := f1.up (hide_up (S := S) e3)
        have i2 := f2.up (hide_up (S := S) e3)
        refine s_retD ((T1.up e2).up e3) (Ex.refl _) (Den.to (den_op (den_lc (List.range l.length) (fun (j : Nat) => PyData.int (j : Int)) _ (fun _ => !true) (fun (j : Nat) => .int (j : Int)) (it_range (dena_cons (dlen (den_var rfl i2)) dena_nil) (by omega)) (by rw [List.length_range]; omega) (fun _ _ => asg_name) fun j hj B1 σ1 eB ⟨y, hy, ey⟩ => by
          subst ey
          have hj := List.mem_range.mp hj
          exact ⟨rfl, tst_not (tst_B (den_call (dena_cons (dix (den_var rfl (i1.up eB)) (den_var rfl hy) hj) (dena_cons (dix (den_var rfl (i2.up eB)) (den_var rfl hy) hj) dena_nil)) ⟨l[j], hall _ (List.getElem_mem hj), rfl, rfl⟩)), fun _ => den_var rfl hy⟩) (den_lst dena_nil (by show 0 ≤ 100000; decide)) (rd_eqL (n := 1) (Ok.list fun x hx => by
            obtain ⟨_, _, rfl⟩ := List.mem_map.mp hx
            exact .int) (by decide))) ?_) fun v5 H5 e5 hv5 => q v5 H5 (((e1.trans e2).trans e3).trans e5) hv5
        rw [List.isEmpty_map, show (List.range l.length).filter (fun _ => !true) = [] from List.filter_eq_nil_iff.mpr (fun _ _ => Bool.false_ne_true)]
        rfl
/-! ### law_picture, law_start -/
def small (m : Nat) : PyData → Prop := fun d => ∃ k : Nat, 1 ≤ k ∧ k ≤ m ∧ d = .int (k : Int)
def isSmall : PyData → Prop := fun d => ∃ h wd c, 1 ≤ h ∧ h ≤ 4 ∧ 1 ≤ wd ∧ wd ≤ 4 ∧ d = picD h wd c
def RPicture : List PyData → (PyData → Prop) → Prop := fun ds C => ds = [.int 4] ∧ C = isSmall
theorem ok_law_picture (T : Tx mg) (h : At K mg "_law_picture" s_law_picture ["_law_row", "_law_most"]) (c_law_taken : Prom P w K mg base "_law_taken" ["_law_row", "_law_many"] 1 (SpD K RTaken)) (c_law_any : Prom P w K mg base "_law_any" ["_law_row", "_law_high", "_law_wide"] 3 (SpD K RAny))
    (c_law_painted : Prom P w K mg base "_law_painted" ["_law_picture_here", "_law_deeds_here"] 2 (SpR RPainted)) (c_law_deeds : Prom P w K mg base "_law_deeds" ["_law_row", "_law_picture_here", "_law_most"] 2 (SpD K RDeeds)) (c_law_mixed : Prom P w K mg base "_law_mixed" ["_law_row", "_law_some"] 2 (SpD K RMixed)) :
    Prom P w K mg base "_law_picture" ["_law_row", "_law_most"] 4 (SpD K RPicture) := by
  refine prom_D h sc_law_picture (fun ds C hR => by obtain ⟨rfl, _⟩ := hR; rfl) fun f cdv A outer s H us Q E S r a scp ds C hr Tr1 R hv hR q => ?_
  obtain ⟨rfl, rfl⟩ := hR
  cases hv with
  | cons h1 t =>
    cases t
    cases h1
    refine ⟨_, (pss_cons (ps_par (i := 2) (j := 3) rfl sc_law_picture.nd rfl rfl (by decide) rfl rfl (pa_cons (pe_op op_addA pe_int (pe_callP c_law_taken (hr.mono (by decide)) (by rfl) (pa_cons (pv 0) (pa_cons (pv 1) pa_nil)))) (pa_cons (pe_op op_addA pe_int (pe_callP c_law_taken (hr.mono (by decide)) (by rfl) (pa_cons (pv 0) (pa_cons (pv 1) pa_nil)))) pa_nil)) (by rfl))
      (pss_cons (ps_par (i := 4) (j := 5) rfl sc_law_picture.nd rfl rfl (by decide) rfl rfl (pa_cons (pe_callP c_law_any (hr.mono (by decide)) (by rfl) (pa_cons (pv 0) (pa_cons (pv 2) (pa_cons (pv 3) pa_nil)))) (pa_cons (pe_callP c_law_taken (hr.mono (by decide)) (by rfl) (pa_cons (pv 0) (pa_cons pe_int pa_nil))) pa_nil)) (by rfl))
      (pss_cons (ps_if (pt_cmpR (k_eq (K := K) hr.units) (pv 5) pe_int (nomark _)) (pss_one (ps_ret (pv 4))) pss_nil)
      (pss_cons (ps_if (pt_cmpR (k_eq (K := K) hr.units) (pv 5) pe_int (nomark _)) (pss_one (ps_ret (pe_callP c_law_painted (hr.mono (by decide)) (by rfl) (pa_cons (pv 4) (pa_cons (pe_callP c_law_deeds (hr.mono (by decide)) (by rfl) (pa_cons (pv 0) (pa_cons (pv 4) (pa_cons (pe_op op_addA (pv 2) (pv 3)) pa_nil)))) pa_nil))))) pss_nil)
      (pss_one (ps_ret (pe_callP c_law_painted (hr.mono (by decide)) (by rfl) (pa_cons (pv 4) (pa_cons (pe_callP c_law_mixed (hr.mono (by decide)) (by rfl) (pa_cons (pv 0) (pa_cons (pe_listRg rfl (by rfl) T.list_ (prg_1 (by rfl) T.range_ (pe_op op_addA (pv 2) (pv 3)))) pa_nil))) pa_nil))))))))), ?_⟩
    have side : ∀ {σ : L2.St} {B : Hp}, σ[0]? = some (some (.ref r)) → σ[1]? = some (some (.int 4)) → DenD K r a scp (tOp rAddA (tC (.int 1)) (tCall (SpD K RTaken) [] E0 (tCons (tVar 0) (tCons (tVar 1) tNil)))) σ B (small 4) := fun {σ B} h0 h1 =>
      denD_op (C1 := fun d => d = .int 1) (C2 := below 4) (Den.dd den_int) (denD_call h0 (denAD_cons (Den.dd (den_var h1 (.int 4))) denAD_nil) fun ds hc => by
        obtain ⟨d, t, rfl, rfl, rfl⟩ := hc
        exact ⟨4, by decide, by decide, rfl, rfl⟩) fun x y hx hy => by
        obtain ⟨k, hk, rfl⟩ := hy
        subst hx
        exact ⟨_, rd_addI, k + 1, by omega, by omega, by rw [Int.natCast_add, Int.add_comm]; rfl⟩
    refine q_parDD Tr1 R (Ex.refl _) (side rfl rfl) (side rfl rfl) fun x y d1 d2 H1 m1 R1 hx hy ⟨hh, a1, a2, e1⟩ ⟨wd, b1, b2, e2⟩ => ?_
    subst e1 e2
    cases hx
    cases hy
    have k : PicOk hh wd := ⟨a1, by omega, b1, by omega⟩
    have T1 := Tr1.mv m1 R1
    refine q_parDD T1 R1 (Ex.refl _) (C1 := isPic hh wd) (C2 := below 4) (denD_call rfl (denAD_cons (Den.dd (den_var rfl (.int (hh : Int)))) (denAD_cons (Den.dd (den_var rfl (.int (wd : Int)))) denAD_nil)) fun ds hc => ?_) (denD_call rfl (denAD_cons (Den.dd den_int) denAD_nil) fun ds hc => ?_) fun x y d1 d2 H2 m2 R2 hx hy ⟨c, e1⟩ ⟨kd, hkd, e2⟩ => ?_
    · obtain ⟨d, t, rfl, rfl, d', t', rfl, rfl, rfl⟩ := hc
      exact ⟨hh, wd, k, rfl, rfl⟩
    · obtain ⟨d, t, rfl, rfl, rfl⟩ := hc
      exact ⟨4, by decide, by decide, rfl, rfl⟩
    subst e1 e2
    cases hy
    have m12 := m1.trans m2
    have T2 := Tr1.mv m12 R2
    have give : ∀ (v : V) (c : LP.Pic) (H' : Hp), Mv r H H' → Row K S H' r a scp → Dn (hide S H') v (picD hh wd c) → Q v H' := fun v c H' m R' hv => q v _ H' m R' hv ⟨hh, wd, c, a1, a2, b1, b2, rfl⟩
    refine q_whenD T2 (Ex.refl _) (tst_test (den_op (den_var rfl (.int (kd : Int))) den_int rd_eqI)) (fun _ H3 e3 => ?_) fun _ H3 e3 => ?_
    · exact ⟨x, rfl, give x c H3 (m12.trans (mv_of e3)) (R2.ex e3) (hx.up (hide_up e3))⟩
    · have R3 := R2.ex e3
      have T3 := T2.up e3
      have x3 := hx.up (hide_up (S := S) e3)
      have m13 := m12.trans (mv_of e3)
      refine q_whenD T3 (Ex.refl _) (tst_test (den_op (den_var rfl (.int (kd : Int))) den_int rd_eqI)) (fun _ H4 e4 => ?_) fun _ H4 e4 => ?_
      · have x4 := x3.up (hide_up (S := S) e4)
        refine s_retDD (T3.up e4) (R3.ex e4) (Ex.refl _) (denD_callR (C := isPic hh wd) (denAD_cons (Den.dd (den_var rfl x4)) (denAD_cons (C1 := isInts) (denD_call rfl (denAD_cons (Den.dd (den_var rfl x4)) (denAD_cons (Den.dd (Den.to (d' := .int ((hh + wd : Nat) : Int)) (den_op (den_var rfl (.int (hh : Int))) (den_var rfl (.int (wd : Int))) rd_addI) (by rw [Int.natCast_add]))) denAD_nil)) fun ds hc => ?_) denAD_nil)) fun ds hc => ?_) fun v d H5 m5 R5 hv ⟨c', e5⟩ => ?_
        · obtain ⟨d, t, rfl, rfl, d', t', rfl, rfl, rfl⟩ := hc
          exact ⟨hh, wd, c, hh + wd, k, by omega, rfl, rfl⟩
        · obtain ⟨d, t, rfl, rfl, d', t', rfl, ⟨ns, hn, rfl⟩, rfl⟩ := hc
          exact ⟨_, ⟨hh, wd, c, ns, k, hn, rfl, rfl⟩, _, rfl⟩
        · subst e5
          exact give v c' H5 ((m13.trans (mv_of e4)).trans m5) R5 hv
      · have x4 := x3.up (hide_up (S := S) e4)
        refine s_retDD (T3.up e4) (R3.ex e4) (Ex.refl _) (denD_callR (C := isPic hh wd) (denAD_cons (Den.dd (den_var rfl x4)) (denAD_cons (C1 := isInts) (DenD.mono (denD_call (C := fun d => ∃ l', d = .list l' ∧ l'.Perm (natL (List.range (hh + wd)))) rfl (denAD_cons (Den.dd (den_listRg (Den.to (d' := .int ((hh + wd : Nat) : Int)) (den_op (den_var rfl (.int (hh : Int))) (den_var rfl (.int (wd : Int))) rd_addI) (by rw [Int.natCast_add])) (by omega))) denAD_nil) fun ds hc => ?_) fun d hd => ?_) denAD_nil)) fun ds hc => ?_) fun v d H5 m5 R5 hv ⟨c', e5⟩ => ?_
        · obtain ⟨d, t, rfl, rfl, rfl⟩ := hc
          exact ⟨_, by unfold natL; rw [List.length_map, List.length_range]; omega, rfl, rfl⟩
        · obtain ⟨l', rfl, pm⟩ := hd
          obtain ⟨ns, rfl⟩ := ints_of l' fun y hy => by
            obtain ⟨m, _, rfl⟩ := List.mem_map.mp (pm.mem_iff.mp hy)
            exact ⟨_, rfl⟩
          refine ⟨ns, ?_, rfl⟩
          have := pm.length_eq
          unfold natL at this
          rw [List.length_map, List.length_map, List.length_range] at this
          omega
        · obtain ⟨d, t, rfl, rfl, d', t', rfl, ⟨ns, hn, rfl⟩, rfl⟩ := hc
          exact ⟨_, ⟨hh, wd, c, ns, k, hn, rfl, rfl⟩, _, rfl⟩
        · subst e5
          exact give v c' H5 ((m13.trans (mv_of e4)).trans m5) R5 hv
def RStart : List PyData → (PyData → Prop) → Prop := fun ds C => ∃ h wd c, PicOk h wd ∧ ds = [picD h wd c] ∧ C = isPic h wd
theorem ok_law_start (T : Tx mg) (h : At K mg "_law_start" s_law_start ["_law_row", "_law_goal"]) (c_law_taken : Prom P w K mg base "_law_taken" ["_law_row", "_law_many"] 1 (SpD K RTaken)) (c_law_pick : Prom P w K mg base "_law_pick" ["_law_row", "_law_things"] 2 (SpD K RPick)) (c_law_any : Prom P w K mg base "_law_any" ["_law_row", "_law_high", "_law_wide"] 3 (SpD K RAny))
    (c_law_painted : Prom P w K mg base "_law_painted" ["_law_picture_here", "_law_deeds_here"] 2 (SpR RPainted)) (c_law_deeds : Prom P w K mg base "_law_deeds" ["_law_row", "_law_picture_here", "_law_most"] 2 (SpD K RDeeds)) (c_law_core : Prom P w K mg base "_law_core" ["_law_picture_here"] 2 (SpR RCore)) :
    Prom P w K mg base "_law_start" ["_law_row", "_law_goal"] 4 (SpD K RStart) := by
  refine prom_D h sc_law_start (fun ds C hR => by obtain ⟨_, _, _, _, rfl, _⟩ := hR; rfl) fun f cdv A outer s H us Q E S r a scp ds C hr Tr1 R hv hR q => ?_
  obtain ⟨hh, wd, c, k, rfl, rfl⟩ := hR
  obtain ⟨k1, k2, k3, k4⟩ := id k
  cases hv with
  | @cons v1 _ _ _ h1 t =>
    cases t
    refine ⟨_, (pss_cons (ps_set (i := 2) sc_law_start.nd rfl (.inl rfl) (pe_callP c_law_taken (hr.mono (by decide)) (by rfl) (pa_cons (pv 0) (pa_cons pe_int pa_nil))))
      (pss_cons (ps_if (pt_cmpR (k_eq (K := K) hr.units) (pv 2) pe_int (nomark _)) (pss_one (ps_ret (pe_callP c_law_any (hr.mono (by decide)) (by rfl) (pa_cons (pv 0) (pa_cons (pe_callB (k_len (K := K)) (by rfl) T.len_ (by decide +kernel) (pa_cons (pv 1) pa_nil)) (pa_cons (pe_callB (k_len (K := K)) (by rfl) T.len_ (by decide +kernel) (pa_cons (pe_ix (k_ix (K := K)) (pv 1) pe_int (fun _ _ => rfl)) pa_nil)) pa_nil)))))) pss_nil)
      (pss_cons (ps_if (pt_cmpR (k_eq (K := K) hr.units) (pv 2) pe_int (nomark _)) (pss_one (ps_ret (pe_callP c_law_painted (hr.mono (by decide)) (by rfl) (pa_cons (pv 1) (pa_cons (pe_callP c_law_deeds (hr.mono (by decide)) (by rfl) (pa_cons (pv 0) (pa_cons (pv 1) (pa_cons pe_int pa_nil)))) pa_nil))))) pss_nil)
      (pss_cons (ps_par3 (i := 3) (j := 4) (l := 5) rfl sc_law_start.nd rfl rfl rfl (by decide) (by decide) (by decide) rfl rfl rfl (pa_cons (pe_callP c_law_core (hr.mono (by decide)) (by rfl) (pa_cons (pv 1) pa_nil)) (pa_cons (pe_callB (k_len (K := K)) (by rfl) T.len_ (by decide +kernel) (pa_cons (pv 1) pa_nil)) (pa_cons (pe_lst pa_nil) pa_nil))) (by rfl))
      (pss_cons (ps_for PassesOwn.never rfl (pi_range1 (by rfl) T.range_ (pa_cons (pv 4) pa_nil)) (pg_name (i := 6) sc_law_start.nd rfl (.inl rfl)) (pss_cons (ps_set (i := 7) sc_law_start.nd rfl (.inl rfl) pe_str)
      (pss_cons (ps_for PassesOwn.never rfl (pi_range1 (by rfl) T.range_ (pa_cons (pe_callB (k_len (K := K)) (by rfl) T.len_ (by decide +kernel) (pa_cons (pe_ix (k_ix (K := K)) (pv 1) pe_int (fun _ _ => rfl)) pa_nil)) pa_nil)) (pg_name (i := 8) sc_law_start.nd rfl (.inl rfl)) (pss_cons (ps_set (i := 9) sc_law_start.nd rfl (.inl rfl) (pe_or (pe_and (pe_cmpR (k_in (K := K)) (pv 6) (pv 3) (by rfl)) (pe_one (pe_cmpR (k_in (K := K)) (pe_op op_addA (pv 4) (pv 8)) (pv 3) (by rfl)))) (pe_one (pe_and (pe_cmpR (k_eq (K := K) hr.units) (pv 2) pe_int (nomark _)) (pe_one (pe_cmpR op_gtA (pe_callP c_law_taken (hr.mono (by decide)) (by rfl) (pa_cons (pv 0) (pa_cons pe_int pa_nil))) pe_int (nomark _)))))))
      (pss_one (ps_set (i := 7) sc_law_start.nd rfl (.inl rfl) (pe_op op_addA (pv 7) (pe_ifExp (pt_val (pv 9)) (pe_ix (k_ix (K := K)) (pe_ix (k_ix (K := K)) (pv 1) (pv 6) (fun _ _ => rfl)) (pv 8) (fun _ _ => rfl)) (pe_callP c_law_pick (hr.mono (by decide)) (by rfl) (pa_cons (pv 0) (pa_cons pe_str pa_nil)))))))))
      (pss_one (ps_expr (pe_bm PySem.F.plainAttrs_list PySem.F.slot_list_append PySem.F.type_list_append mt_append (pv 5) (pa_cons (pv 7) pa_nil)))))))
      (pss_one (ps_ret (pe_callTy (k_tup (K := K)) (by rfl) T.tuple_ (by decide +kernel) (pa_cons (pv 5) pa_nil))))))))), ?_⟩
    refine q_setDD Tr1 R (Ex.refl _) (C := below 4) (denD_call rfl (denAD_cons (Den.dd den_int) denAD_nil) fun ds hc => ?_) fun x d H1 m1 R1 hx ⟨kd, hkd, e1⟩ => ?_
    · obtain ⟨d, t, rfl, rfl, rfl⟩ := hc
      exact ⟨4, by decide, by decide, rfl, rfl⟩
    subst e1
    cases hx
    have T1 := Tr1.mv m1 R1
    have g1 := h1.up (m1.ex R1.mem)
    refine q_whenD T1 (Ex.refl _) (tst_test (den_op (den_var rfl (.int (kd : Int))) den_int rd_eqI)) (fun _ H2 e2 => ?_) fun _ H2 e2 => ?_
    · have g2 := g1.up (hide_up (S := S) e2)
      refine s_retDD (T1.up e2) (R1.ex e2) (Ex.refl _) (C := isPic hh wd) (denD_call rfl (denAD_cons (Den.dd (den_len_pic (den_var rfl g2))) (denAD_cons (Den.dd (den_len_row (den_row0 (den_var rfl g2) k1) k4)) denAD_nil)) fun ds hc => ?_) fun v d H5 m5 R5 hv hC => q v d H5 ((m1.trans (mv_of e2)).trans m5) R5 hv hC
      obtain ⟨d, t, rfl, rfl, d', t', rfl, rfl, rfl⟩ := hc
      exact ⟨hh, wd, k, rfl, rfl⟩
    have T2 := T1.up e2
    have R2 := R1.ex e2
    have g2 := g1.up (hide_up (S := S) e2)
    have m2 := m1.trans (mv_of (r := r) e2)
    refine q_whenD T2 (Ex.refl _) (tst_test (den_op (den_var rfl (.int (kd : Int))) den_int rd_eqI)) (fun _ H3 e3 => ?_) fun _ H3 e3 => ?_
    · have g3 := g2.up (hide_up (S := S) e3)
      refine s_retDD (T2.up e3) (R2.ex e3) (Ex.refl _) (denD_callR (C := isPic hh wd) (denAD_cons (Den.dd (den_var rfl g3)) (denAD_cons (C1 := isInts) (denD_call rfl (denAD_cons (Den.dd (den_var rfl g3)) (denAD_cons (Den.dd den_int) denAD_nil)) fun ds hc => ?_) denAD_nil)) fun ds hc => ?_) fun v d H5 m5 R5 hv hC => q v d H5 ((m2.trans (mv_of e3)).trans m5) R5 hv hC
      · obtain ⟨d, t, rfl, rfl, d', t', rfl, rfl, rfl⟩ := hc
        exact ⟨hh, wd, c, 4, k, by decide, rfl, rfl⟩
      · obtain ⟨d, t, rfl, rfl, d', t', rfl, ⟨ns, hn, rfl⟩, rfl⟩ := hc
        exact ⟨_, ⟨hh, wd, c, ns, k, hn, rfl, rfl⟩, _, rfl⟩
    have T3 := T2.up e3
    have R3 := R2.ex e3
    have g3 := g2.up (hide_up (S := S) e3)
    have m3 := m2.trans (mv_of (r := r) e3)
    refine q_par3L T3 (Ex.refl _) (den_call (dena_cons (den_var rfl g3) dena_nil) ⟨hh, wd, c, k, rfl, rfl⟩) (den_len_pic (den_var rfl g3)) fun xc xh L H4 e4 HL T4 hL4 o4 hxc hxh => ?_
    cases hxh
    have R4 : Row K (L :: S) H4 r a scp := R3.open e4 o4
    have nL : L ≠ r := R3.ne HL
    have LS : L ∉ S := T3.not HL
    have HL0 : H L = none := m3.back R3 HL
    have g4 := g3.up o4
    have m4 := m3.trans (mv_of (r := r) e4)
    refine q_forD (List.range hh) (fun (i : Nat) => PyData.int (i : Int)) T4 (Ex.refl _) (it_range (dena_cons (den_var rfl (.int (hh : Int))) dena_nil) (by omega)) fun H5 e5 => ?_
    refine ⟨fun i σ' H' => ∃ (y6 y7 y8 y9 : Option V) (acc : List V) (ds : List PyData), σ' = [some (.ref r), some v1, some (.int (kd : Int)), some xc, some (.int (hh : Int)), some (.ref L), y6, y7, y8, y9] ∧ Mv r H H' ∧ Row K (L :: S) H' r a scp ∧ Ex (hide (L :: S) H5) (hide (L :: S) H') ∧
      H' L = some (.lst acc) ∧ DnAll (hide (L :: S) H') acc ds ∧ ds.length = i ∧ ∀ d ∈ ds, isRow wd d,
      ⟨none, none, none, none, [], [], rfl, m4.trans (mv_of e5), R4.ex e5, Ex.refl _, e5 L _ hL4, .nil, rfl, fun d hd => nomatch hd⟩, fun _ _ _ ⟨_, _, _, _, _, _, _, _, _, e, _⟩ => e.trans hide_le, ?_, ?_⟩
    · rintro i a0 σ' H' v H'' hg ⟨y6, y7, y8, y9, acc, ds, rfl, hm, R5, eB, hacc, hd, hlen, hrow⟩ e6 hv
      have hai : a0 = i ∧ i < hh := by
        obtain ⟨h1, h2⟩ := List.getElem?_eq_some_iff.mp hg
        rw [List.length_range] at h1
        rw [List.getElem_range] at h2
        exact ⟨h2.symm, h1⟩
      obtain ⟨rfl, hi⟩ := hai
      have hal : acc.length = ds.length := hd.len
      have T5 : Tr (L :: S) H' := row_tr R5 Tr1 hm nL hacc
      have T6 := T5.up e6
      have R6 := R5.ex e6
      refine asg_name (L :: S) H'' v T6 (hv (L :: S) T5 eB) _ fun σ2 ⟨y, hy, ey⟩ => ?_
      subst ey
      cases hy
      refine q_setD T6 (Ex.refl _) den_str fun z H7 e7 hz => ?_
      cases hz
      have T7 := T6.up e7
      have R7 := R6.ex e7
      have eB7 := eB.trans (hide_up (S := L :: S) (e6.trans e7))
      have g7 := (g4.up (hide_up e5)).up eB7
      have c7 := (hxc.up (hide_up e5)).up eB7
      refine q_forD (List.range wd) (fun (j : Nat) => PyData.int (j : Int)) T7 (Ex.refl _) (it_range (dena_cons (den_len_row (den_row0 (den_var rfl g7) k1) k4) dena_nil) (by omega)) fun H8 e8 => ?_
      have R8 := R7.ex e8
      refine ⟨fun j σ' H' => ∃ (y8 y9 : Option V) (f : Nat → Bool), σ' = [some (.ref r), some v1, some (.int (kd : Int)), some xc, some (.int (hh : Int)), some (.ref L), some (.int (a0 : Int)), some (.str (rowS j f)), y8, y9] ∧ Mv r H8 H' ∧ Row K (L :: S) H' r a scp,
        ⟨y8, y9, fun _ => false, rfl, .refl, R8⟩, fun _ _ _ ⟨_, _, _, _, m, R⟩ => (m.ex R.mem).trans hide_le, ?_, ?_⟩
      · rintro j b0 σ' H9 v H10 hgb ⟨z8, z9, f, rfl, m9, R9⟩ e10 hv9
        have hbj : b0 = j ∧ j < wd := by
          obtain ⟨h1, h2⟩ := List.getElem?_eq_some_iff.mp hgb
          rw [List.length_range] at h1
          rw [List.getElem_range] at h2
          exact ⟨h2.symm, h1⟩
        obtain ⟨rfl, hb⟩ := hbj
        have T9 : Tr (L :: S) H9 := (T7.up e8).mv m9 R9
        have T10 := T9.up e10
        have R10 := R9.ex e10
        have m10 := m9.trans (mv_of (r := r) e10)
        have e710 : Ex (hide (L :: S) H7) (hide (L :: S) H10) := (hide_up e8).trans (m10.ex R10.mem)
        refine asg_name (L :: S) H10 v T10 (hv9 (L :: S) T9 (m9.ex R9.mem)) _ fun σ2 ⟨y, hy, ey⟩ => ?_
        subst ey
        cases hy
        have g10 := g7.up e710
        have c10 := c7.up e710
        refine q_setDD T10 R10 (Ex.refl _) (C := isB) (denD_or (denD_and (DenD.mono (Den.dd (den_op (den_var rfl (.int (a0 : Int))) (den_var rfl c10) (rd_inL (neg := false) rfl (flat_nat _)))) fun d hd => ⟨_, hd⟩) (DenD.mono (Den.dd (den_op (den_op (den_var rfl (.int (hh : Int))) (den_var rfl (.int (b0 : Int))) rd_addI) (den_var rfl c10) (rd_inL (neg := false) rfl (flat_nat _)))) fun d hd => ⟨_, hd⟩))
          (denD_and (DenD.mono (Den.dd (den_op (den_var rfl (.int (kd : Int))) den_int rd_eqI)) fun d hd => ⟨_, hd⟩) (denD_op (C1 := below 5) (C2 := fun d => d = .int 0) (denD_call rfl (denAD_cons (Den.dd den_int) denAD_nil) fun ds hc => ?_) (Den.dd den_int) fun x y hx hy => ?_))) fun u du H11 m11 R11 hu ⟨kb, eu⟩ => ?_
        · obtain ⟨d, t, rfl, rfl, rfl⟩ := hc
          exact ⟨5, by decide, by decide, rfl, rfl⟩
        · obtain ⟨n, _, rfl⟩ := hx
          subst hy
          exact ⟨_, rd_gt, _, rfl⟩
        subst eu
        cases hu
        have T11 := T10.mv m11 R11
        have g11 := g10.up (m11.ex R11.mem)
        refine s_setDD T11 R11 (Ex.refl _) (C := fun d => ∃ b, d = .str (rowS b0 f ++ sgn b)) (denD_op (C1 := fun d => d = .str (rowS b0 f)) (C2 := fun d => ∃ b, d = .str (sgn b)) (Den.dd (den_var rfl (.str _))) (denD_if (tstD_B (DenD.mono (Den.dd (den_var rfl (.bl kb))) fun d hd => ⟨_, hd⟩)) (DenD.mono (Den.dd (den_sign (den_row (den_var rfl g11) (den_var rfl (.int (a0 : Int))) hi) (den_var rfl (.int (b0 : Int))) k4 hb)) fun d hd => ⟨_, hd⟩) (denD_call rfl (denAD_cons (Den.dd den_str) denAD_nil) fun ds hc => ?_)) fun x y hx hy => ?_) fun u du H12 m12 R12 hu ⟨sb, eu⟩ => ?_
        · obtain ⟨d, t, rfl, rfl, rfl⟩ := hc
          exact .inr ⟨rfl, rfl⟩
        · obtain ⟨b, rfl⟩ := hy
          subst hx
          refine ⟨_, rd_addS ?_, b, rfl⟩
          rw [rowS_len, sgn_len, sizeLine_eq]
          omega
        · subst eu
          cases hu
          exact ⟨some (.int (b0 : Int)), some (.bl kb), _, by rw [rowS_put]; rfl, (m10.trans m11).trans m12, R12⟩
      · rintro σ' H9 ⟨z8, z9, f, rfl, m9, R9⟩
        rw [List.length_range]
        have T9 : Tr (L :: S) H9 := (T7.up e8).mv m9 R9
        have hL9 : H9 L = some (.lst acc) := m9 L _ nL (((e6.trans e7).trans e8) L _ hacc)
        have m79 := (mv_of (r := r) ((e6.trans e7).trans e8)).trans m9
        refine s_appD T9 (Ex.refl _) rfl hL9 (by omega) (den_var rfl (.str (rowS wd f))) fun u H10 e10 hu => ?_
        have m710 := m79.trans (mv_of (r := r) e10)
        have R10 := R9.ex e10
        refine ⟨_, _, _, _, acc ++ [u], ds ++ [.str (rowS wd f)], rfl, (hm.trans m710).mut HL0, R10.upd nL, ?_, upd_same, ?_, ?_, ?_⟩
        · rw [hide_upd]
          exact eB.trans (m710.ex R10.mem)
        · rw [hide_upd]
          exact DnAll.snoc (hd.up (m710.ex R10.mem)) hu
        · rw [List.length_append, hlen]
          rfl
        · intro d hd
          rcases List.mem_append.mp hd with hd | hd
          · exact hrow d hd
          · rw [List.mem_singleton.mp hd]
            exact ⟨f, rfl⟩
    · rintro σ' H' ⟨y6, y7, y8, y9, acc, ds, rfl, hm, R5, eB, hacc, hd, hlen, hrow⟩
      rw [List.length_range] at hlen
      exact s_retD (Tr1.mv hm (R5.pop nL)) (Ex.refl _) (den_cb (dena_cons (den_var rfl (hide_list LS hacc hd)) dena_nil) rc_tupL) fun v5 H5 e5 hv5 => q v5 _ H5 (hm.trans (mv_of e5)) ((R5.pop nL).ex e5) hv5 (pic_of_rows hlen hrow)
end
end LPW

/-! ## LpL7 -/
/-! What the law itself needs. -/
namespace LPW
open PySem PySem.Spec PyProof.Rows L2 Evl

/-! ### data that law_alike can take -/
theorem al_leaf {n : Nat} {d : PyData} (h : leaf d) : Al (n + 1) d := .inl h
theorem al_optN {n : Nat} (o : Option Nat) : Al (n + 1) (optN o) := by
  cases o with
  | none => exact .inl (.inl rfl)
  | some m => exact .inl (.inr (.inr ⟨_, rfl⟩))
theorem al_int {n : Nat} (i : Int) : Al (n + 1) (.int i) := .inl (.inr (.inr ⟨i, rfl⟩))
theorem al_bool {n : Nat} (b : Bool) : Al (n + 1) (.bool b) := .inl (.inr (.inl ⟨b, rfl⟩))
theorem al_none {n : Nat} : Al (n + 1) .none := .inl (.inl rfl)
theorem al_tup {n : Nat} {l : List PyData} (h1 : l.length ≤ 1000) (h2 : ∀ x ∈ l, Al n x) : Al (n + 1) (.tuple l) := .inr ⟨l, .inr rfl, h1, h2⟩
theorem al_natL {n : Nat} {l : List Nat} (h : l.length ≤ 1000) : Al (n + 2) (.tuple (natL l)) := al_tup (by unfold natL; rw [List.length_map]; exact h) fun x hx => by
  obtain ⟨m, _, rfl⟩ := List.mem_map.mp hx
  exact al_int _
theorem al_ints {n : Nat} {l : List Int} (h : l.length ≤ 1000) : Al (n + 2) (intsD l) := al_tup (by rw [List.length_map]; exact h) fun x hx => by
  obtain ⟨m, _, rfl⟩ := List.mem_map.mp hx
  exact al_int _
theorem minD_mem : ∀ (xs : List PyData) (x : PyData), PySem.W.minD x xs ∈ x :: xs := by
  intro xs
  unfold PySem.W.minD
  induction xs with
  | nil => intro x; exact List.mem_cons_self
  | cons y ys ih =>
    intro x
    rw [List.foldl_cons]
    rcases List.mem_cons.mp (ih (if PySem.W.dataLt y x = true then y else x)) with e | e
    · rw [e]
      split
      · exact List.mem_cons_of_mem _ List.mem_cons_self
      · exact List.mem_cons_self
    · exact List.mem_cons_of_mem _ (List.mem_cons_of_mem _ e)
theorem al_near {n m : Nat} {f : Nat → Option Nat} : Al (n + 2) (nearD (waysD m f)) := by
  have key : ∀ x ∈ waysD m f, Al (n + 2) x := fun x hx => by
    obtain ⟨i, _, rfl⟩ := List.mem_map.mp hx
    refine al_tup (by show 2 ≤ 1000; decide) fun y hy => ?_
    rcases List.mem_cons.mp hy with rfl | hy
    · exact al_optN _
    · rcases List.mem_cons.mp hy with rfl | hy
      · exact al_int _
      · cases hy
  generalize waysD m f = ws at key
  cases ws with
  | nil => exact al_none
  | cons x xs => exact key _ (minD_mem xs x)

/-! ### plain -/
theorem none_all (m : Nat) (f : Nat → Option Nat) : (!decide (none ∈ (List.range m).map f)) = (List.range m).all fun j => (f j).isSome := by
  rw [Bool.eq_iff_iff, Bool.not_eq_true', decide_eq_false_iff_not, List.all_eq_true]
  constructor
  · intro h j hj
    cases hf : f j with
    | none => exact absurd (List.mem_map.mpr ⟨j, hj, hf⟩) h
    | some _ => rfl
  · intro h hm
    obtain ⟨j, hj, e⟩ := List.mem_map.mp hm
    have := h j hj
    rw [e] at this
    cases this
theorem pics_fun {h w : Nat} : ∀ l : List PyData, (∀ d ∈ l, isPic h w d) → ∃ p : Nat → LP.Pic, l = (List.range l.length).map fun i => picD h w (p i)
  | [], _ => ⟨fun _ _ _ => false, rfl⟩
  | d :: ds, hd => by
    obtain ⟨c, rfl⟩ := hd d List.mem_cons_self
    obtain ⟨p, hp⟩ := pics_fun ds fun x hx => hd x (List.mem_cons_of_mem _ hx)
    refine ⟨consP c p, ?_⟩
    rw [List.length_cons, List.range_succ_eq_map, List.map_cons, List.map_map]
    conv => lhs; rw [hp]
    rfl
theorem one_alike {h wd m : Nat} {p : Nat → LP.Pic} (i j : Nat) (hm : 1 ≤ m) : decide ((unlike ((List.range m).map fun k => sgn (p k i j)) ((List.range m).map fun k => sgn (p k i j)).length : Int) = 1) = alikeAt m p i j := by
  have hl : ((List.range m).map fun k => sgn (p k i j)).length = m := by rw [List.length_map, List.length_range]
  rw [hl]
  obtain ⟨n, rfl⟩ : ∃ n, m = n + 1 := ⟨m - 1, by omega⟩
  have hat : ∀ k, k ≤ n → ((List.range (n + 1)).map fun k => sgn (p k i j)).getD k Str.empty = sgn (p k i j) := fun k hk => by
    rw [List.getD_eq_getElem?_getD, List.getElem?_map, List.getElem?_range (by omega)]
    rfl
  have key := unlike_one (xs := (List.range (n + 1)).map fun k => sgn (p k i j)) (i := n) (by rw [hl]; omega)
  unfold alikeAt
  rw [Bool.eq_iff_iff, decide_eq_true_iff, List.all_eq_true]
  constructor
  · intro e k hk
    have hk := List.mem_range.mp hk
    have := key.mp (by omega) k (by omega)
    rw [hat k (by omega), hat 0 (by omega)] at this
    exact beq_iff_eq.mpr (sgn_inj.mp this)
  · intro e
    have := key.mpr fun k hk => by
      rw [hat k hk, hat 0 (by omega)]
      exact congrArg sgn (beq_iff_eq.mp (e k (List.mem_range.mpr (by omega))))
    omega
theorem last_team {h wd m : Nat} {p : Nat → LP.Pic} (hm : 1 ≤ m) : inD (.int ((m : Int) - 1)) ((team h wd m p 0).map .int) = (can h wd (p 0) (p (m - 1)) && can h wd (p (m - 1)) (p 0)) := by
  rw [inD_ints]
  unfold team
  rw [Bool.eq_iff_iff, decide_eq_true_iff, List.mem_map]
  constructor
  · rintro ⟨j, hj, e⟩
    have : j = m - 1 := by omega
    subst this
    exact (List.mem_filter.mp hj).2
  · intro hc
    exact ⟨m - 1, List.mem_filter.mpr ⟨List.mem_range.mpr (by omega), hc⟩, by omega⟩
theorem val_last (h wd n : Nat) (p : Nat → LP.Pic) : valD h wd (n + 1) p = .tuple (((List.range n).map fun i => picD h wd (p i)) ++ [picD h wd (p n)]) := by
  unfold valD
  rw [List.range_succ, List.map_append]
  rfl

/-! ### sorted(set(teams)) -/
section
variable {P : Program} {w : World} {K : PySem.W.Frag} {σ : L2.St} {B H : Hp} {S : List Addr} {te : TE}
theorem refs_of {H : Hp} : ∀ {xs : List V} {ks : List (List Int)}, DnAll H xs (ks.map intsD) → ∃ L : List (Addr × List Int), xs = L.map (fun q => V.ref q.1) ∧ L.map (·.2) = ks ∧ ∀ q ∈ L, H q.1 = some (.tup (q.2.map V.int))
  | _, [], h => by
    cases h
    exact ⟨[], rfl, rfl, fun q hq => nomatch hq⟩
  | _, k :: ks, h => by
    cases h with
    | cons h1 t =>
      obtain ⟨L, rfl, e2, e3⟩ := refs_of t
      cases h1 with
      | @tup b vs _ hb hv =>
        refine ⟨(b, k) :: L, rfl, by rw [List.map_cons, e2], fun q hq => ?_⟩
        rcases List.mem_cons.mp hq with rfl | hq
        · rw [← hv.ints]
          exact hb
        · exact e3 q hq
theorem den_sorted_set {ks L : List (List Int)} (h : Den te σ B (.list (ks.map intsD))) (h64 : ks.length < 64) (hne : ∀ k ∈ ks, k ≠ []) (ha : Asc L ks) :
    Den (tCB (rSortedST K P w) (tCons (tCB (rSetOfT K P w) (tCons te tNil)) tNil)) σ B (.list (L.map intsD)) := fun S H1 T e Q q =>
  h S H1 T e _ fun v H2 e2 hv => by
    cases hv with
    | @lst l xs _ hl hx =>
      obtain ⟨Lk, rfl, e3, e4⟩ := refs_of hx
      have hk : ∀ p ∈ Lk, H2 p.1 = some (.tup (p.2.map V.int)) := fun p hp => hide_le p.1 _ (e4 p hp)
      have hlen : Lk.length = ks.length := by rw [← e3, List.length_map]
      refine ⟨l, Lk, rfl, .inl (.inl (hide_le l _ hl)), fun p hp => .inl (.inl (hk p hp)), by omega, fun a Ls hna h1 h2 => ?_⟩
      have hk2 : ∀ p ∈ Ls, upd H2 a (SetTO P w a Ls) p.1 = some (.tup (p.2.map V.int)) := fun p hp => Ex.new hna _ _ (hk p (h1 p hp))
      refine ⟨a, Ls, rfl, upd_same, fun p hp => .inl (.inl (hk2 p hp)), fun p hp => hne p.2 (by rw [← e3]; exact List.mem_map.mpr ⟨p, h1 p hp, rfl⟩), fun L' pp hm pm nd _ pw hpp => ?_⟩
      have eL : L'.map (·.2) = L := Asc.one (k := L'.map (·.2)) ⟨List.pairwise_map.mpr pw, nd, fun x => Iff.rfl⟩ ha fun x => by
        rw [(pm.map (·.2)).mem_iff, ← e3]
        constructor
        · intro hx
          obtain ⟨p, hp, rfl⟩ := List.mem_map.mp hx
          exact List.mem_map.mpr ⟨p, h1 p hp, rfl⟩
        · intro hx
          obtain ⟨p, hp, rfl⟩ := List.mem_map.mp hx
          exact h2 p hp
      have e5 : Ex H2 (upd (upd H2 a (SetTO P w a Ls)) pp (.lst (L'.map fun q => V.ref q.1))) := (Ex.new hna).trans (Ex.new hpp)
      have T3 := (T.up e2).up (Ex.new (o := SetTO P w a Ls) hna)
      refine q _ _ (e2.trans e5) (.lst (hide_new T3 hpp) ?_)
      rw [← eL]
      have hd : ∀ l : List (Addr × List Int), (∀ q ∈ l, q ∈ L') → DnAll (hide S (upd (upd H2 a (SetTO P w a Ls)) pp (.lst (L'.map fun q => V.ref q.1)))) (l.map fun q => V.ref q.1) ((l.map (·.2)).map intsD) := by
        intro l
        induction l with
        | nil => intro _; exact .nil
        | cons q l ih =>
          intro hl
          have hq := h1 q ((hm q).mp (hl q List.mem_cons_self))
          refine .cons (.tup (xs := q.2.map V.int) ?_ (dn_intL q.2)) (ih fun r hr => hl r (List.mem_cons_of_mem _ hr))
          exact hide_up e5 _ _ (e4 q hq)
      exact hd L' fun q hq => hq
/-! ### draws, more -/
variable {r a : Addr} {scp : List Int} {C : PyData → Prop}
theorem denD_cb {rr : List V → Hp → VK → Prop} {tr : TA} {Cs : List PyData → Prop} (h : DenAD K r a scp tr σ B Cs) (hr : ∀ ds, Cs ds → ∃ dz, RCD rr ds dz ∧ C dz) : DenD K r a scp (tCB rr tr) σ B C := fun S H1 T R e Q q =>
  h S H1 T R e _ fun vs ds H2 m2 R2 hv cs => by
    obtain ⟨dz, hz, cz⟩ := hr ds cs
    exact hz S H2 vs (T.mv m2 R2) hv Q fun z H3 e3 hz' => q z dz H3 (m2.trans (mv_of e3)) (R2.ex e3) hz' cz
theorem denD_tup {tr : TA} {Cs : List PyData → Prop} (h : DenAD K r a scp tr σ B Cs) (hl : ∀ ds, Cs ds → ds.length ≤ 100000) : DenD K r a scp (tTup tr) σ B (fun d => ∃ ds, d = .tuple ds ∧ Cs ds) := fun S H1 T R e Q q =>
  h S H1 T R e _ fun vs ds H2 m2 R2 hv cs => ⟨by rw [hv.len]; exact sz_of (hl ds cs), fun p hp => q _ (.tuple ds) _ (m2.trans (mv_of (Ex.new hp))) (R2.ex (Ex.new hp)) (.tup (hide_new (T.mv m2 R2) hp) (hv.up (hide_up (Ex.new hp)))) ⟨ds, rfl, cs⟩⟩
/-- a picture does not stand on a list -/
theorem pic_off {L : Addr} {acc : List V} {v : V} {h w : Nat} {c : LP.Pic} (hL : H L = some (.lst acc)) (hv : Dn (hide S H) v (picD h w c)) : Dn (hide (L :: S) H) v (picD h w c) := by
  cases hv with
  | @tup b xs _ hb hx =>
    have hb' : H b = some (.tup xs) := hide_le b _ hb
    have nb : b ∉ L :: S := fun m => by
      rcases List.mem_cons.mp m with e | m
      · rw [e, hL] at hb'
        cases hb'
      · unfold hide at hb
        rw [if_pos m] at hb
        cases hb
    refine .tup (by rw [hide_at nb]; exact hb') ?_
    have hs : DnAll (hide S H) xs (((List.range h).map fun i => rowS w (c i)).map PyData.str) := by
      rw [List.map_map]
      exact hx
    have e := hs.strs
    rw [e]
    have key : ∀ l : List Str, DnAll (hide (L :: S) H) (l.map V.str) (l.map PyData.str) := by
      intro l
      induction l with
      | nil => exact .nil
      | cons s l ih => exact .cons (.str s) ih
    have := key ((List.range h).map fun i => rowS w (c i))
    rw [List.map_map] at this ⊢
    rw [List.map_map] at this
    exact this
end
end LPW

/-! ## LpLaw -/
/-! The law. -/
namespace LPW
open PySem PySem.Spec PyProof.Rows L2 Evl

section
variable {P : Program} {w : World} {K : PySem.W.Frag} {mg : Str → Option Value} {base : Heap}
def spLaw (K : PySem.W.Frag) : Sp := fun vs H Q _ => ∃ (a : Addr) (ns : List Int), vs = [.ref a] ∧ SqL K H a (ns.map V.int) ∧ ns.length ≤ 63 ∧ ∀ H', Q (.bl true) H'
def dueD (h wd m : Nat) (p : Nat → LP.Pic) : PyData := .list ((List.range m).map fun i => .list ((List.range m).map fun j => optN (LP.few h wd (p i) (p j))))
theorem nodup_le : ∀ {ks M : List (List Int)}, ks.Nodup → (∀ x ∈ ks, x ∈ M) → ks.length ≤ M.length
  | [], _, _, _ => Nat.zero_le _
  | k :: ks, M, hn, h => by
    obtain ⟨h1, h2⟩ := List.nodup_cons.mp hn
    have hk := h k List.mem_cons_self
    have ih := nodup_le (ks := ks) (M := M.erase k) h2 fun x hx => (List.mem_erase_of_ne (fun e => by rw [e] at hx; exact h1 hx)).mpr (h x (List.mem_cons_of_mem _ hx))
    rw [List.length_erase_of_mem hk] at ih
    have := List.length_pos_of_mem hk
    rw [List.length_cons]
    omega
theorem q_asgDD {σ : L2.St} {B H : Hp} {S : List Addr} {r a : Addr} {scp : List Int} {te : TE} {g : TG} {tz : TS} {D : Ends} {C : PyData → Prop} (T : Tr S H) (R : Row K S H r a scp) (e : Ex B (hide S H)) (h : DenD K r a scp te σ B C)
    (k : ∀ x d H1, Mv r H H1 → Row K S H1 r a scp → Dn (hide S H1) x d → C d → g x σ H1 fun σ' H2 => tz D σ' H2) : tSeq (tAsg te g) tz D σ H := h S H T R e _ fun v d H1 m R1 hv cd => k v d H1 m R1 hv cd
theorem ok_law {f : Addr} {fd : FuncData} (F : Fun K "law" "law" s_law f fd) (T : Tx mg)
    (c_law_picture : Prom P w K mg base "_law_picture" ["_law_row", "_law_most"] 4 (SpD K RPicture)) (c_law_taken : Prom P w K mg base "_law_taken" ["_law_row", "_law_many"] 1 (SpD K RTaken))
    (c_law_start : Prom P w K mg base "_law_start" ["_law_row", "_law_goal"] 4 (SpD K RStart)) (c_law_pick : Prom P w K mg base "_law_pick" ["_law_row", "_law_things"] 2 (SpD K RPick))
    (c_law_mixed : Prom P w K mg base "_law_mixed" ["_law_row", "_law_some"] 2 (SpD K RMixed)) (c_law_few : Prom P w K mg base "_law_few" ["_law_start_here", "_law_goal"] 3 (SpR RFew))
    (c_law_alike : Prom P w K mg base "_law_alike" ["_law_found", "_law_due"] 5 (SpR (RAl 4))) (c_law_core : Prom P w K mg base "_law_core" ["_law_picture_here"] 2 (SpR RCore))
    (c_table : Prom P w K mg base "table" ["value"] 6 (SpR RTable)) (c_along : Prom P w K mg base "along" ["value"] 6 (SpR RAlong)) (c_reached_all : Prom P w K mg base "reached_all" ["value"] 6 (SpR RReached))
    (c_from_all : Prom P w K mg base "from_all" ["value"] 6 (SpR RFrom)) (c_free_ones : Prom P w K mg base "free_ones" ["value"] 6 (SpR RFreeOnes)) (c_groups : Prom P w K mg base "groups" ["value"] 6 (SpR RGroups))
    (c_same_core : Prom P w K mg base "same_core" ["one", "other"] 6 (SpR RSame)) (c_agree : Prom P w K mg base "agree" ["value"] 6 (SpR RAgree)) (c_nearest_goal : Prom P w K mg base "nearest_goal" ["start", "value"] 6 (SpR RNearGoal))
    (c_nearest_start : Prom P w K mg base "nearest_start" ["value", "goal"] 6 (SpR RNearStart)) : FnOk P w K mg base CX0 7 f fd ["_law_script"] (spLaw K) := by
  refine F.ok sc_law (fun vs H Q E h => ?_) (fun cdv A outer s H vs Q E hr h => ?_)
  · obtain ⟨a, ns, rfl, _⟩ := h
    rfl
  obtain ⟨a, scp, rfl, hS, hlen, q⟩ := h
  refine ⟨_, (pss_cons (ps_set (i := 1) sc_law.nd rfl (.inl rfl) (pe_lst (pa_cons (pv 0) (pa_cons pe_int (pa_cons pe_int (pa_cons pe_int pa_nil))))))
      (pss_cons (ps_set (i := 2) sc_law.nd rfl (.inl rfl) (pe_callP c_law_picture (hr.mono (by decide)) (by rfl) (pa_cons (pv 1) (pa_cons pe_int pa_nil))))
      (pss_cons (ps_set (i := 3) sc_law.nd rfl (.inl rfl) (pe_lst (pa_cons (pv 2) pa_nil)))
      (pss_cons (ps_for PassesOwn.never rfl (pi_range1 (by rfl) T.range_ (pa_cons (pe_callP c_law_taken (hr.mono (by decide)) (by rfl) (pa_cons (pv 1) (pa_cons pe_int pa_nil))) pa_nil)) (pg_name (i := 4) sc_law.nd rfl (.inl rfl)) (pss_one (ps_expr (pe_bm PySem.F.plainAttrs_list PySem.F.slot_list_append PySem.F.type_list_append mt_append (pv 3) (pa_cons (pe_callP c_law_start (hr.mono (by decide)) (by rfl) (pa_cons (pv 1) (pa_cons (pe_callP c_law_pick (hr.mono (by decide)) (by rfl) (pa_cons (pv 1) (pa_cons (pv 3) pa_nil))) pa_nil))) pa_nil)))))
      (pss_cons (ps_asg (pe_tup (pa_cons (pe_callTy (k_tup (K := K)) (by rfl) T.tuple_ (by decide +kernel) (pa_cons (pe_callP c_law_mixed (hr.mono (by decide)) (by rfl) (pa_cons (pv 1) (pa_cons (pv 3) pa_nil))) pa_nil)) (pa_cons (pe_callB (k_len (K := K)) (by rfl) T.len_ (by decide +kernel) (pa_cons (pv 3) pa_nil)) pa_nil))) (pg_tupK (K := K) (n := 2) (by rfl) (pgs_cons (pg_name (i := 5) sc_law.nd rfl (.inr rfl)) (pgs_cons (pg_name (i := 6) sc_law.nd rfl (.inl rfl)) pgs_nil))))
      (pss_cons (ps_set (i := 8) sc_law.nd rfl (.inr rfl) (pe_lc (own := [("_law_one", 14)])  rfl sc_law.nd (pi_seqK (K := K) (pv 5)) (blkOk_by (N := n_law) (sc := defScope s_law) (by decide +kernel)) (fun _ _ _ _ _ => (pg_name (i := 14) sc_law.nd rfl (.inr rfl))) (fun _ _ _ _ _ => pts_nil) (fun _ _ _ _ _ => (pe_lc (own := [("_law_other", 7)])  rfl sc_law.nd (pi_seqK (K := K) (pv 5)) (blkOk_nest (N := n_law) (sc := defScope s_law) rfl (by decide +kernel)) (fun _ _ _ _ _ => (pg_name (i := 7) sc_law.nd rfl (.inl rfl))) (fun _ _ _ _ _ => pts_nil) (fun _ _ _ _ _ => (pe_callP c_law_few (hr.mono (by decide)) (by rfl) (pa_cons (pv 14) (pa_cons (pv 7) pa_nil))))))))
      (pss_cons (ps_if (pt_not (pt_val (pe_callP c_law_alike (hr.mono (by decide)) (by rfl) (pa_cons (pe_callP c_table (hr.mono (by decide)) (by rfl) (pa_cons (pv 5) pa_nil)) (pa_cons (pe_callTy (k_tup (K := K)) (by rfl) T.tuple_ (by decide +kernel) (pa_cons (pe_lc (own := [("_law_line", 15)])  rfl sc_law.nd (pi_seqK (K := K) (pv 8)) (blkOk_by (N := n_law) (sc := defScope s_law) (by decide +kernel)) (fun _ _ _ _ _ => (pg_name (i := 15) sc_law.nd rfl (.inl rfl))) (fun _ _ _ _ _ => pts_nil) (fun _ _ _ _ _ => (pe_callTy (k_tup (K := K)) (by rfl) T.tuple_ (by decide +kernel) (pa_cons (pv 15) pa_nil)))) pa_nil)) pa_nil))))) (pss_one (ps_ret pe_bl)) pss_nil)
      (pss_cons (ps_setLc (i := 10) (own := [("_law_at", 9)])  rfl sc_law.nd rfl rfl (sw_true rfl rfl rfl (by decide +kernel)) (pi_range1 (by rfl) T.range_ (pa_cons (pe_op op_subA (pv 6) pe_int) pa_nil)) (blkOk_by (N := n_law) (sc := defScope s_law) (by decide +kernel)) (fun _ _ _ _ _ => (pg_name (i := 9) sc_law.nd rfl (.inl rfl))) (fun _ _ _ _ _ => pts_nil) (fun _ _ _ _ _ => (pe_ix (k_ix (K := K)) (pe_ix (k_ix (K := K)) (pv 8) (pv 9) (fun _ _ => rfl)) (pe_op op_addA (pv 9) pe_int) (fun _ _ => rfl))))
      (pss_cons (ps_if (pt_not (pt_val (pe_callP c_law_alike (hr.mono (by decide)) (by rfl) (pa_cons (pe_callP c_along (hr.mono (by decide)) (by rfl) (pa_cons (pv 5) pa_nil)) (pa_cons (pe_ifExp (pt_cmpR (k_in (K := K)) pe_non (pv 10) (by rfl)) pe_non (pe_callB (k_sum (K := K) rfl) (by rfl) T.sum_ (by decide +kernel) (pa_cons (pv 10) pa_nil))) pa_nil))))) (pss_one (ps_ret pe_bl)) pss_nil)
      (pss_cons (ps_if (pt_not (pt_val (pe_callP c_law_alike (hr.mono (by decide)) (by rfl) (pa_cons (pe_callP c_reached_all (hr.mono (by decide)) (by rfl) (pa_cons (pv 5) pa_nil)) (pa_cons (pe_callTy (k_tup (K := K)) (by rfl) T.tuple_ (by decide +kernel) (pa_cons (pe_lc (own := [("_law_at", 9)])  rfl sc_law.nd (pi_range1 (by rfl) T.range_ (pa_cons (pv 6) pa_nil)) (blkOk_by (N := n_law) (sc := defScope s_law) (by decide +kernel)) (fun _ _ _ _ _ => (pg_name (i := 9) sc_law.nd rfl (.inl rfl))) (fun _ _ _ _ _ => pts_one (pt_cmpR (k_nin (K := K)) pe_non (pe_ix (k_ix (K := K)) (pv 8) (pv 9) (fun _ _ => rfl)) (by rfl))) (fun _ _ _ _ _ => (pv 9))) pa_nil)) pa_nil))))) (pss_one (ps_ret pe_bl)) pss_nil)
      (pss_cons (ps_if (pt_not (pt_val (pe_callP c_law_alike (hr.mono (by decide)) (by rfl) (pa_cons (pe_callP c_from_all (hr.mono (by decide)) (by rfl) (pa_cons (pv 5) pa_nil)) (pa_cons (pe_callTy (k_tup (K := K)) (by rfl) T.tuple_ (by decide +kernel) (pa_cons (pe_lc (own := [("_law_at", 9)])  rfl sc_law.nd (pi_range1 (by rfl) T.range_ (pa_cons (pv 6) pa_nil)) (blkOk_by (N := n_law) (sc := defScope s_law) (by decide +kernel)) (fun _ _ _ _ _ => (pg_name (i := 9) sc_law.nd rfl (.inr rfl))) (fun _ _ _ _ _ => pts_one (pt_cmpR (k_nin (K := K)) pe_non (pe_lc (own := [("_law_line", 15)])  rfl sc_law.nd (pi_seqK (K := K) (pv 8)) (blkOk_nest (N := n_law) (sc := defScope s_law) rfl (by decide +kernel)) (fun _ _ _ _ _ => (pg_name (i := 15) sc_law.nd rfl (.inl rfl))) (fun _ _ _ _ _ => pts_nil) (fun _ _ _ _ _ => (pe_ix (k_ix (K := K)) (pv 15) (pv 9) (fun _ _ => rfl)))) (by rfl))) (fun _ _ _ _ _ => (pv 9))) pa_nil)) pa_nil))))) (pss_one (ps_ret pe_bl)) pss_nil)
      (pss_cons (ps_if (pt_not (pt_val (pe_callP c_law_alike (hr.mono (by decide)) (by rfl) (pa_cons (pe_callP c_free_ones (hr.mono (by decide)) (by rfl) (pa_cons (pv 5) pa_nil)) (pa_cons (pe_callTy (k_tup (K := K)) (by rfl) T.tuple_ (by decide +kernel) (pa_cons (pe_lc (own := [("_law_at", 9)])  rfl sc_law.nd (pi_range1 (by rfl) T.range_ (pa_cons (pv 6) pa_nil)) (blkOk_by (N := n_law) (sc := defScope s_law) (by decide +kernel)) (fun _ _ _ _ _ => (pg_name (i := 9) sc_law.nd rfl (.inl rfl))) (fun _ _ _ _ _ => pts_one (pt_cmpR (k_eq (K := K) hr.units) (pe_callP c_law_core (hr.mono (by decide)) (by rfl) (pa_cons (pe_ix (k_ix (K := K)) (pv 5) (pv 9) (fun _ _ => rfl)) pa_nil)) (pe_lst pa_nil) (nomark _))) (fun _ _ _ _ _ => (pv 9))) pa_nil)) pa_nil))))) (pss_one (ps_ret pe_bl)) pss_nil)
      (pss_cons (ps_set (i := 11) sc_law.nd rfl (.inl rfl) (pe_lst pa_nil))
      (pss_cons (ps_for PassesOwn.never rfl (pi_range1 (by rfl) T.range_ (pa_cons (pv 6) pa_nil)) (pg_name (i := 9) sc_law.nd rfl (.inr rfl)) (pss_one (ps_expr (pe_bm PySem.F.plainAttrs_list PySem.F.slot_list_append PySem.F.type_list_append mt_append (pv 11) (pa_cons (pe_callTy (k_tup (K := K)) (by rfl) T.tuple_ (by decide +kernel) (pa_cons (pe_lc (own := [("_law_spot", 16)])  rfl sc_law.nd (pi_range1 (by rfl) T.range_ (pa_cons (pv 6) pa_nil)) (blkOk_by (N := n_law) (sc := defScope s_law) (by decide +kernel)) (fun _ _ _ _ _ => (pg_name (i := 16) sc_law.nd rfl (.inl rfl))) (fun _ _ _ _ _ => pts_one (PW.pt (pw_and (pt_cmpR op_notNA (pe_ix (k_ix (K := K)) (pe_ix (k_ix (K := K)) (pv 8) (pv 9) (fun _ _ => rfl)) (pv 16) (fun _ _ => rfl)) pe_non (nomark _)) (pw_and1 (pt_cmpR op_notNA (pe_ix (k_ix (K := K)) (pe_ix (k_ix (K := K)) (pv 8) (pv 16) (fun _ _ => rfl)) (pv 9) (fun _ _ => rfl)) pe_non (nomark _)))))) (fun _ _ _ _ _ => (pv 16))) pa_nil)) pa_nil)))))
      (pss_cons (ps_if (pt_not (pt_val (pe_callP c_law_alike (hr.mono (by decide)) (by rfl) (pa_cons (pe_callP c_groups (hr.mono (by decide)) (by rfl) (pa_cons (pv 5) pa_nil)) (pa_cons (pe_callTy (k_tup (K := K)) (by rfl) T.tuple_ (by decide +kernel) (pa_cons (pe_callB (cr_sortedST rfl hr.units) (by rfl) T.sorted_ (by decide +kernel) (pa_cons (pe_callTy (cr_setOfT rfl hr.units) (by rfl) T.set_ (by decide +kernel) (pa_cons (pv 11) pa_nil)) pa_nil)) pa_nil)) pa_nil))))) (pss_one (ps_ret pe_bl)) pss_nil)
      (pss_cons (ps_if (pt_not (pt_val (pe_callP c_law_alike (hr.mono (by decide)) (by rfl) (pa_cons (pe_callP c_same_core (hr.mono (by decide)) (by rfl) (pa_cons (pe_ix (k_ix (K := K)) (pv 5) pe_int (fun _ _ => rfl)) (pa_cons (pe_ix (k_ix (K := K)) (pv 5) (pe_un un_neg pe_int) (fun _ _ => rfl)) pa_nil))) (pa_cons (pe_cmpR (k_in (K := K)) (pe_op op_subA (pv 6) pe_int) (pe_ix (k_ix (K := K)) (pv 11) pe_int (fun _ _ => rfl)) (by rfl)) pa_nil))))) (pss_one (ps_ret pe_bl)) pss_nil)
      (pss_cons (ps_set (i := 12) sc_law.nd rfl (.inl rfl) pe_int)
      (pss_cons (ps_for PassesOwn.never rfl (pi_range1 (by rfl) T.range_ (pa_cons (pe_callB (k_len (K := K)) (by rfl) T.len_ (by decide +kernel) (pa_cons (pv 2) pa_nil)) pa_nil)) (pg_name (i := 9) sc_law.nd rfl (.inr rfl)) (pss_one (ps_set (i := 12) sc_law.nd rfl (.inl rfl) (pe_op op_addA (pv 12) (pe_callB (k_len (K := K)) (by rfl) T.len_ (by decide +kernel) (pa_cons (pe_lc (own := [("_law_spot", 16)])  rfl sc_law.nd (pi_range1 (by rfl) T.range_ (pa_cons (pe_callB (k_len (K := K)) (by rfl) T.len_ (by decide +kernel) (pa_cons (pe_ix (k_ix (K := K)) (pv 2) pe_int (fun _ _ => rfl)) pa_nil)) pa_nil)) (blkOk_by (N := n_law) (sc := defScope s_law) (by decide +kernel)) (fun _ _ _ _ _ => (pg_name (i := 16) sc_law.nd rfl (.inr rfl))) (fun _ _ _ _ _ => pts_one (pt_cmpR (k_eq (K := K) hr.units) (pe_lenSetS (K := K) rfl (by rfl) T.len_ (by rfl) T.set_ (pe_lc (own := [("_law_picture_here", 17)])  rfl sc_law.nd (pi_seqK (K := K) (pv 5)) (blkOk_nest (N := n_law) (sc := defScope s_law) rfl (by decide +kernel)) (fun _ _ _ _ _ => (pg_name (i := 17) sc_law.nd rfl (.inl rfl))) (fun _ _ _ _ _ => pts_nil) (fun _ _ _ _ _ => (pe_ix (k_ix (K := K)) (pe_ix (k_ix (K := K)) (pv 17) (pv 9) (fun _ _ => rfl)) (pv 16) (fun _ _ => rfl))))) pe_int (nomark _))) (fun _ _ _ _ _ => (pv 16))) pa_nil))))))
      (pss_cons (ps_if (pt_not (pt_val (pe_callP c_law_alike (hr.mono (by decide)) (by rfl) (pa_cons (pe_callP c_agree (hr.mono (by decide)) (by rfl) (pa_cons (pv 5) pa_nil)) (pa_cons (pv 12) pa_nil))))) (pss_one (ps_ret pe_bl)) pss_nil)
      (pss_cons (ps_set (i := 7) sc_law.nd rfl (.inr rfl) (pe_callP c_law_start (hr.mono (by decide)) (by rfl) (pa_cons (pv 1) (pa_cons (pv 2) pa_nil))))
      (pss_cons (ps_setLc (i := 13) (own := [("_law_at", 9)])  rfl sc_law.nd rfl rfl (sw_true rfl rfl rfl (by decide +kernel)) (pi_range1 (by rfl) T.range_ (pa_cons (pv 6) pa_nil)) (blkOk_by (N := n_law) (sc := defScope s_law) (by decide +kernel)) (fun _ _ _ _ _ => (pg_name (i := 9) sc_law.nd rfl (.inl rfl))) (fun _ _ _ _ _ => pts_one (pt_cmpR op_notNA (pe_callP c_law_few (hr.mono (by decide)) (by rfl) (pa_cons (pv 7) (pa_cons (pe_ix (k_ix (K := K)) (pv 5) (pv 9) (fun _ _ => rfl)) pa_nil))) pe_non (nomark _))) (fun _ _ _ _ _ => (pe_tup (pa_cons (pe_callP c_law_few (hr.mono (by decide)) (by rfl) (pa_cons (pv 7) (pa_cons (pe_ix (k_ix (K := K)) (pv 5) (pv 9) (fun _ _ => rfl)) pa_nil))) (pa_cons (pv 9) pa_nil)))))
      (pss_cons (ps_if (pt_not (pt_val (pe_callP c_law_alike (hr.mono (by decide)) (by rfl) (pa_cons (pe_callP c_nearest_goal (hr.mono (by decide)) (by rfl) (pa_cons (pv 7) (pa_cons (pv 5) pa_nil))) (pa_cons (pe_ifExp (pt_cmpR (k_ne (K := K) hr.units) (pv 13) (pe_lst pa_nil) (nomark _)) (pe_callB (cr_minD rfl hr.units) (by rfl) T.min_ (by decide +kernel) (pa_cons (pv 13) pa_nil)) pe_non) pa_nil))))) (pss_one (ps_ret pe_bl)) pss_nil)
      (pss_cons (ps_setLc (i := 13) (own := [("_law_at", 9)])  rfl sc_law.nd rfl rfl (sw_true rfl rfl rfl (by decide +kernel)) (pi_range1 (by rfl) T.range_ (pa_cons (pv 6) pa_nil)) (blkOk_by (N := n_law) (sc := defScope s_law) (by decide +kernel)) (fun _ _ _ _ _ => (pg_name (i := 9) sc_law.nd rfl (.inl rfl))) (fun _ _ _ _ _ => pts_one (pt_cmpR op_notNA (pe_callP c_law_few (hr.mono (by decide)) (by rfl) (pa_cons (pe_ix (k_ix (K := K)) (pv 5) (pv 9) (fun _ _ => rfl)) (pa_cons (pv 7) pa_nil))) pe_non (nomark _))) (fun _ _ _ _ _ => (pe_tup (pa_cons (pe_callP c_law_few (hr.mono (by decide)) (by rfl) (pa_cons (pe_ix (k_ix (K := K)) (pv 5) (pv 9) (fun _ _ => rfl)) (pa_cons (pv 7) pa_nil))) (pa_cons (pv 9) pa_nil)))))
      (pss_one (ps_ret (pe_callP c_law_alike (hr.mono (by decide)) (by rfl) (pa_cons (pe_callP c_nearest_start (hr.mono (by decide)) (by rfl) (pa_cons (pv 5) (pa_cons (pv 7) pa_nil))) (pa_cons (pe_ifExp (pt_cmpR (k_ne (K := K) hr.units) (pv 13) (pe_lst pa_nil) (nomark _)) (pe_callB (cr_minD rfl hr.units) (by rfl) T.min_ (by decide +kernel) (pa_cons (pv 13) pa_nil)) pe_non) pa_nil)))))))))))))))))))))))))))), ?_⟩
  -- the row
  refine ⟨.ref a, rfl, sz_of (by show 4 ≤ 100000; decide), fun r hr0 => ?_⟩
  have oR : Ex H (hide [r] (upd H r (.lst [.ref a, .int 0, .int 5346, .int 0]))) := by
    have := hide_open (S := []) hr0 (Ex.new (o := .lst [.ref a, .int 0, .int 5346, .int 0]) hr0)
    rwa [hide_nil] at this
  have R1 : Row K [r] (upd H r (.lst [.ref a, .int 0, .int 5346, .int 0])) r a scp := ⟨List.mem_cons_self, sqL_up hS oR, hlen, 0, 5346, 0, upd_same, by decide⟩
  have T1 : Tr [r] (upd H r (.lst [.ref a, .int 0, .int 5346, .int 0])) := Tr.nil.cons upd_same
  -- the first picture
  refine q_setDD (σ := (start n_law [V.ref a]).set 1 (some (.ref r))) T1 R1 (Ex.refl _) (C := isSmall) (denD_call rfl (denAD_cons (Den.dd den_int) denAD_nil) fun ds hc => ?_) fun x1 d1 H2 m2 R2 hx1 ⟨hh, wd, c1, a1, a2, b1, b2, ed⟩ => ?_
  · obtain ⟨d, t, rfl, rfl, rfl⟩ := hc
    exact ⟨rfl, rfl⟩
  subst ed
  have k : PicOk hh wd := ⟨a1, by omega, b1, by omega⟩
  obtain ⟨k1, k2, k3, k4⟩ := id k
  have T2 := T1.mv m2 R2
  -- some = [first]
  refine ⟨x1, rfl, sz_of (by show 1 ≤ 100000; decide), fun L hL => ?_⟩
  have nL : L ≠ r := R2.ne hL
  have LS : L ∉ [r] := T2.not hL
  have T3 : Tr [L, r] (upd H2 L (.lst [x1])) := (T2.up (Ex.new hL)).cons upd_same
  have R3 : Row K [L, r] (upd H2 L (.lst [x1])) r a scp := R2.new hL
  have o3 : Ex (hide [r] H2) (hide [L, r] (upd H2 L (.lst [x1]))) := hide_open hL (Ex.new hL)
  have x3 := hx1.up o3
  have hL3 : upd H2 L (.lst [x1]) L = some (.lst [x1]) := upd_same
  have nT := c_law_taken
  -- the range's draw
  refine (denD_call (σ := ((((start n_law [V.ref a]).set 1 (some (.ref r))).set 2 (some x1)).set 3 (some (.ref L)))) (C := below 4) rfl (denAD_cons (Den.dd den_int) denAD_nil) fun ds hc => ?_ : DenD K r a scp (tCall (SpD K RTaken) [] E0 (tCons (tVar 1) (tCons (tC (.int 4)) tNil))) _ (hide [L, r] (upd H2 L (.lst [x1]))) (below 4)) [L, r] _ T3 R3 (Ex.refl _) _ fun xn dn H4 m4 R4 hxn ⟨n, hn, en⟩ => ?_
  · obtain ⟨d, t, rfl, rfl, rfl⟩ := hc
    exact ⟨4, by decide, by decide, rfl, rfl⟩
  subst en
  cases hxn
  have hL4 : H4 L = some (.lst [x1]) := m4 L _ nL hL3
  have T4 : Tr [L, r] H4 := T3.mv m4 R4
  have x4 := x3.up (m4.ex R4.mem)
  have key4 : ∀ (tz : TS) (D : Ends) (tu : TS), tSeq (tFor (iRng1 (tCons (tC (.int (n : Int))) tNil)) (gName 4) tu) tz D [some (.ref a), some (.ref r), some x1, some (.ref L), none, none, none, none, none, none, none, none, none, none, none, none, none, none] H4 →
      tSeq (tFor (iRng1 (tCons (tC (.int (n : Int))) tNil)) (gName 4) tu) tz D ((((start n_law [V.ref a]).set 1 (some (.ref r))).set 2 (some x1)).set 3 (some (.ref L))) H4 := fun _ _ _ h => h
  refine key4 _ _ _ ?_
  refine q_forD (List.range n) (fun (i : Nat) => PyData.int (i : Int)) T4 (Ex.refl _) (it_range (dena_cons (den_int (i := (n : Int))) dena_nil) (by omega)) fun H5 e5 => ?_
  refine ⟨fun i σ' H' => ∃ (y4 : Option V) (acc : List V) (ds : List PyData), σ' = [some (.ref a), some (.ref r), some x1, some (.ref L), y4, none, none, none, none, none, none, none, none, none, none, none, none, none] ∧ Mv r H2 H' ∧ Row K [L, r] H' r a scp ∧ Ex (hide [L, r] H5) (hide [L, r] H') ∧ H' L = some (.lst acc) ∧
      DnAll (hide [L, r] H') acc ds ∧ ds.length = i + 1 ∧ ∀ d ∈ ds, isPic hh wd d,
    ⟨none, [x1], [picD hh wd c1], rfl, ((mv_of (Ex.new hL)).trans m4).trans (mv_of e5), R4.ex e5, Ex.refl _, e5 L _ hL4, .cons (x4.up (hide_up e5)) .nil, rfl, fun d hd => ⟨c1, List.mem_singleton.mp hd⟩⟩, fun _ _ _ ⟨_, _, _, _, _, _, e, _⟩ => e.trans hide_le, ?_, ?_⟩
  · rintro i x σ' H6 v H7 hg ⟨y4, acc, ds, rfl, m6, R6, eB, hacc, hd, hlen, hpic⟩ e7 hv
    have hi : i < n := by
      have := (List.getElem?_eq_some_iff.mp hg).1
      rwa [List.length_range] at this
    have T6 : Tr [L, r] H6 := row_tr R6 T2 m6 nL hacc
    have T7 := T6.up e7
    have R7 := R6.ex e7
    have hacc7 := e7 L _ hacc
    have hd7 := hd.up (hide_up (S := [L, r]) e7)
    have hal : acc.length = ds.length := hd.len
    refine asg_name [L, r] H7 v T7 (hv [L, r] T6 eB) _ fun σ2 ⟨y, hy, ey⟩ => ?_
    subst ey
    -- some in sight: L hidden no more
    have R7' : Row K [r] H7 r a scp := R7.pop nL
    have T7' : Tr [r] H7 := fun c hc => T7 c (List.mem_cons_of_mem _ hc)
    have hs7 : Dn (hide [r] H7) (.ref L) (.list ds) := hide_list LS hacc7 hd7
    refine ⟨.ref L, rfl, .inl ⟨rfl, acc, .inl (.inl hacc7)⟩, ?_⟩
    refine (denD_call (C := isPic hh wd) (i := 1) rfl (denAD_cons (C1 := isPic hh wd) (DenD.mono (denD_call (C := (· ∈ ds)) (i := 1) rfl (denAD_cons (Den.dd (den_var (i := 3) rfl hs7)) denAD_nil) fun l hc => ?_) fun d hd => hpic d hd) denAD_nil) fun l hc => ?_) [r] H7 T7' R7' (Ex.refl _) _ fun u du H8 m8 R8 hu ⟨cu, eu⟩ => ?_
    · obtain ⟨d, t, rfl, rfl, rfl⟩ := hc
      exact .inl ⟨ds, by omega, by omega, rfl, rfl⟩
    · obtain ⟨d, t, rfl, ⟨c', rfl⟩, rfl⟩ := hc
      exact ⟨hh, wd, c', k, rfl, rfl⟩
    subst eu
    have hacc8 : H8 L = some (.lst acc) := m8 L _ nL hacc7
    have R8' : Row K [L, r] H8 r a scp := R7.via m8 R8
    refine ⟨L, acc, u, rfl, rfl, hacc8, sz_lt (by omega), ?_⟩
    refine ⟨some y, acc ++ [u], ds ++ [picD hh wd cu], rfl, ((m6.trans (mv_of e7)).trans m8).mut hL, R8'.upd nL, ?_, upd_same, ?_, by rw [List.length_append, hlen]; rfl, fun d hd => ?_⟩
    · rw [hide_upd]
      exact (eB.trans (hide_up e7)).trans (m8.ex R7.mem)
    · rw [hide_upd]
      exact DnAll.snoc (hd7.up (m8.ex R7.mem)) (pic_off hacc8 hu)
    · rcases List.mem_append.mp hd with hd | hd
      · exact hpic d hd
      · exact ⟨cu, List.mem_singleton.mp hd⟩
  rintro σ' H6 ⟨y4, acc, ds, rfl, m6, R6, eB, hacc, hd, hlen, hpic⟩
  rw [List.length_range] at hlen
  have T6 : Tr [r] H6 := T2.mv m6 (R6.pop nL)
  have R6' : Row K [r] H6 r a scp := R6.pop nL
  have hs6 : Dn (hide [r] H6) (.ref L) (.list ds) := hide_list LS hacc hd
  have f6 : Dn (hide [r] H6) x1 (picD hh wd c1) := ((x4.up (hide_up e5)).up eB).up hide_less
  -- value, many
  refine q_asgDD T6 R6' (Ex.refl _) (denD_tup (denAD_cons (C1 := fun d => ∃ p, d = valD hh wd (n + 1) p) (denD_cb (denAD_cons (C1 := fun d => ∃ l', d = .list l' ∧ l'.Perm ds) (denD_call (i := 1) rfl (denAD_cons (Den.dd (den_var (i := 3) rfl hs6)) denAD_nil) fun l hc => ?_) denAD_nil) fun l hc => ?_) (denAD_cons (C1 := fun d => d = .int ((n + 1 : Nat) : Int)) (Den.dd (Den.to (den_cb (dena_cons (den_var (i := 3) rfl hs6) dena_nil) rc_lenL) (by rw [hlen]))) denAD_nil)) (fun l hc => ?_)) fun xv dv H7 m7 R7 hxv ⟨l7, el7, d7, t7, el72, ⟨p, ed7⟩, d8, t8, et7, ed8, et8⟩ => ?_
  · obtain ⟨d, t, rfl, rfl, rfl⟩ := hc
    exact ⟨ds, by omega, rfl, rfl⟩
  · obtain ⟨d, t, rfl, ⟨l', rfl, pm⟩, rfl⟩ := hc
    obtain ⟨p, hp⟩ := pics_fun l' fun d hd => hpic d (pm.mem_iff.mp hd)
    have hl' : l'.length = n + 1 := by rw [pm.length_eq, hlen]
    rw [hl'] at hp
    refine ⟨.tuple l', rc_tupL, p, ?_⟩
    unfold valD
    rw [← hp]
  · obtain ⟨d, t, rfl, _, d', t', rfl, _, rfl⟩ := hc
    show 2 ≤ 100000
    decide
  subst et8 ed8 et7 ed7 el72 el7
  obtain ⟨m, em⟩ : ∃ m, m = n + 1 := ⟨_, rfl⟩
  rw [← em] at hxv
  have m1 : 1 ≤ m := by omega
  have m4' : m ≤ 4 := by omega
  have vok : VOk hh wd m := ⟨k, m1, by omega⟩
  have T7 : Tr [r] H7 := T6.mv m7 R7
  have f7 := f6.up (m7.ex R7.mem)
  refine asg_pair [r] H7 xv T7 hxv _ fun σ' ⟨yv, ym, hyv, hym, es⟩ => ?_
  subst es
  cases hym
  have sz : ∀ {α : Type} (f : Nat → α), ((List.range m).map f).length ≤ 1000 := fun f => by
    rw [List.length_map, List.length_range]
    omega
  -- due
  let row : Nat → List PyData := fun i => (List.range m).map fun j => optN (LP.few hh wd (p i) (p j))
  have hrow : ∀ {i}, i < m → ((List.range m).map fun i => PyData.list (row i))[i]? = some (.list (row i)) := fun {i} hi => by
    rw [List.getElem?_map, List.getElem?_range hi]
    rfl
  have hcell : ∀ {i j}, j < m → (row i)[j]? = some (optN (LP.few hh wd (p i) (p j))) := fun {i j} hj => by
    show ((List.range m).map fun j => optN (LP.few hh wd (p i) (p j)))[j]? = _
    rw [List.getElem?_map, List.getElem?_range hj]
    rfl
  refine q_setD T7 (Ex.refl _) (den_lcM (List.range m) (fun i => picD hh wd (p i)) _ (fun i => .list (row i)) (it_val (den_var rfl hyv)) (by rw [List.length_range]; omega) (fun _ _ => asg_name) fun i hi B1 σ1 eB ⟨y, hy, ey⟩ => by
    subst ey
    exact ⟨rfl, den_lcM (List.range m) (fun i => picD hh wd (p i)) _ (fun j => optN (LP.few hh wd (p i) (p j))) (it_val (den_var rfl (hyv.up eB))) (by rw [List.length_range]; omega) (fun _ _ => asg_name) fun j hj B2 σ2 eB2 ⟨z, hz, ez⟩ => by
      subst ez
      exact ⟨rfl, den_call (dena_cons (den_var rfl (hy.up eB2)) (dena_cons (den_var rfl hz) dena_nil)) ⟨hh, wd, p i, p j, k, rfl, rfl⟩⟩⟩) fun xd H8 e8 hd8 => ?_
  have T8 := T7.up e8
  have v8 := hyv.up (hide_up (S := [r]) e8)
  -- table
  refine q_skip T8 (Ex.refl _) (tst_not (a := true) (tst_B (den_call (dena_cons (den_call (dena_cons (den_var rfl v8) dena_nil) ⟨hh, wd, m, p, vok, rfl, rfl⟩) (dena_cons (den_cb (dena_cons (den_lcM (List.range m) (fun i => PyData.list (row i)) _ (fun i => .tuple (row i)) (it_list (den_var rfl hd8)) (by rw [List.length_range]; omega) (fun _ _ => asg_name) fun i hi B1 σ1 eB ⟨y, hy, ey⟩ => by
      subst ey
      exact ⟨rfl, den_cb (dena_cons (den_var rfl hy) dena_nil) rc_tupL⟩) dena_nil) rc_tupL) dena_nil)) ⟨tableD hh wd m p, al_tup (sz _) fun x hx => by
        obtain ⟨i, _, rfl⟩ := List.mem_map.mp hx
        exact al_tup (sz _) fun y hy => by
          obtain ⟨j, _, rfl⟩ := List.mem_map.mp hy
          exact al_optN _, rfl, rfl⟩))) fun H9 e9 => ?_
  have T9 := T8.up e9
  have v9 := v8.up (hide_up (S := [r]) e9)
  have d9 := hd8.up (hide_up (S := [r]) e9)
  -- steps
  refine q_setD T9 (Ex.refl _) (Den.to (den_lcM (List.range (m - 1)) (fun (i : Nat) => PyData.int (i : Int)) _ (fun i => optN (LP.few hh wd (p i) (p (i + 1)))) (it_range (dena_cons (Den.to (d' := .int ((m - 1 : Nat) : Int)) (den_op (den_var rfl (.int _)) den_int rd_sub) (congrArg PyData.int (by omega))) dena_nil) (by omega)) (by rw [List.length_range]; omega) (fun _ _ => asg_name) fun i hi B1 σ1 eB ⟨y, hy, ey⟩ => by
    subst ey
    have hi := List.mem_range.mp hi
    exact ⟨rfl, den_op (den_op (den_var rfl (d9.up eB)) (den_var rfl hy) (rd_ixL (hrow (i := i) (by omega)))) (Den.to (d' := .int ((i + 1 : Nat) : Int)) (den_op (den_var rfl hy) den_int rd_addI) (by rw [Int.natCast_add]; rfl)) (rd_ixL (hcell (i := i) (j := i + 1) (by omega)))⟩) (show _ = PyData.list ((steps hh wd m p).map optN) by unfold steps; rw [List.map_map]; rfl)) fun xs H10 e10 hs10 => ?_
  have T10 := T9.up e10
  have v10 := v9.up (hide_up (S := [r]) e10)
  have d10 := d9.up (hide_up (S := [r]) e10)
  -- along
  have hal : Al 4 (alongD hh wd m p) := by
    unfold alongD
    split
    · exact al_none
    · exact al_int _
  have dal : ∀ {σ : L2.St}, σ[10]? = some (some xs) → Den (tIf (tTest (tOp (rIn K false) (tC .non) (tVar 10))) (tC .non) (tCB (rSum K) (tCons (tVar 10) tNil))) σ (hide [r] H10) (alongD hh wd m p) := fun {σ} hx => by
    unfold alongD
    generalize steps hh wd m p = st at hs10
    refine den_if (tst_test (den_op den_non (den_var hx hs10) (rd_inL (neg := false) rfl (flat_optN st)))) (fun hb => ?_) fun hb => ?_
    · have hm : none ∈ st := of_decide_eq_true (by rw [← inD_none]; exact hb)
      rw [if_pos hm]
      exact den_non
    · have hm : none ∉ st := of_decide_eq_false (by rw [← inD_none]; exact hb)
      rw [if_neg hm]
      refine Den.to (den_sum (xs := st.map fun o => o.getD 0) (b := fun (n : Nat) => (n : Int)) (Den.to (den_var hx hs10) (by rw [all_some hm]))) (by rw [sum_cast])
  refine q_skip T10 (Ex.refl _) (tst_not (a := true) (tst_B (den_call (dena_cons (den_call (dena_cons (den_var rfl v10) dena_nil) ⟨hh, wd, m, p, vok, rfl, rfl⟩) (dena_cons (dal rfl) dena_nil)) ⟨_, hal, rfl, rfl⟩))) fun H11 e11 => ?_
  have T11 := T10.up e11
  have v11 := v10.up (hide_up (S := [r]) e11)
  have d11 := d10.up (hide_up (S := [r]) e11)
  have hsz : ∀ (ok : Nat → Bool), ((List.range m).filter ok).length ≤ 1000 := fun ok => Nat.le_trans (List.length_filter_le _ _) (by rw [List.length_range]; omega)
  -- reached_all
  refine q_skip T11 (Ex.refl _) (tst_not (a := true) (tst_B (den_call (dena_cons (den_call (dena_cons (den_var rfl v11) dena_nil) ⟨hh, wd, m, p, vok, rfl, rfl⟩) (dena_cons (den_cb (dena_cons (den_lc (List.range m) (fun (i : Nat) => PyData.int (i : Int)) _ (fun i => (List.range m).all fun j => can hh wd (p i) (p j)) (fun (i : Nat) => .int (i : Int)) (it_range (dena_cons (den_var rfl (.int _)) dena_nil) (by omega)) (by rw [List.length_range]; omega) (fun _ _ => asg_name) fun i hi B1 σ1 eB ⟨y, hy, ey⟩ => by
    subst ey
    have hi := List.mem_range.mp hi
    refine ⟨rfl, Tst.to (tst_test (den_op den_non (den_op (den_var rfl (d11.up eB)) (den_var rfl hy) (rd_ixL (hrow (i := i) hi))) (rd_inL (neg := true) (ds := row i) rfl (by
      have := flat_optN ((List.range m).map fun j => LP.few hh wd (p i) (p j))
      rw [List.map_map] at this
      exact this)))) ?_, fun _ => den_var rfl hy⟩
    rw [if_pos rfl]
    have e : inD .none (row i) = decide (none ∈ (List.range m).map fun j => LP.few hh wd (p i) (p j)) := by
      rw [← inD_none, List.map_map]
      rfl
    rw [e]
    exact none_all m fun j => LP.few hh wd (p i) (p j)) dena_nil) rc_tupL) dena_nil)) ⟨reachD m fun i => (List.range m).all fun j => can hh wd (p i) (p j), al_natL (hsz _), rfl, rfl⟩))) fun H12 e12 => ?_
  have T12 := T11.up e12
  have v12 := v11.up (hide_up (S := [r]) e12)
  have d12 := d11.up (hide_up (S := [r]) e12)
  -- from_all
  refine q_skip T12 (Ex.refl _) (tst_not (a := true) (tst_B (den_call (dena_cons (den_call (dena_cons (den_var rfl v12) dena_nil) ⟨hh, wd, m, p, vok, rfl, rfl⟩) (dena_cons (den_cb (dena_cons (den_lc (List.range m) (fun (i : Nat) => PyData.int (i : Int)) _ (fun i => (List.range m).all fun j => can hh wd (p j) (p i)) (fun (i : Nat) => .int (i : Int)) (it_range (dena_cons (den_var rfl (.int _)) dena_nil) (by omega)) (by rw [List.length_range]; omega) (fun _ _ => asg_name) fun i hi B1 σ1 eB ⟨y, hy, ey⟩ => by
    subst ey
    have hi := List.mem_range.mp hi
    refine ⟨rfl, Tst.to (tst_test (den_op den_non (Den.to (den_lcM (List.range m) (fun i => PyData.list (row i)) _ (fun j => optN (LP.few hh wd (p j) (p i))) (it_list (den_var rfl (d12.up eB))) (by rw [List.length_range]; omega) (fun _ _ => asg_name) fun j hj B2 σ2 eB2 ⟨z, hz, ez⟩ => by
      subst ez
      exact ⟨rfl, den_op (den_var rfl hz) (den_var rfl (hy.up eB2)) (rd_ixL (hcell (i := j) hi))⟩) (show _ = PyData.list (((List.range m).map fun j => LP.few hh wd (p j) (p i)).map optN) by rw [List.map_map]; rfl)) (rd_inL (neg := true) rfl (flat_optN _)))) ?_, fun _ => den_var rfl hy⟩
    rw [if_pos rfl, inD_none]
    exact none_all m fun j => LP.few hh wd (p j) (p i)) dena_nil) rc_tupL) dena_nil)) ⟨reachD m fun i => (List.range m).all fun j => can hh wd (p j) (p i), al_natL (hsz _), rfl, rfl⟩))) fun H13 e13 => ?_
  have T13 := T12.up e13
  have v13 := v12.up (hide_up (S := [r]) e13)
  have d13 := d12.up (hide_up (S := [r]) e13)
  -- free_ones
  refine q_skip T13 (Ex.refl _) (tst_not (a := true) (tst_B (den_call (dena_cons (den_call (dena_cons (den_var rfl v13) dena_nil) ⟨hh, wd, m, p, vok, rfl, rfl⟩) (dena_cons (den_cb (dena_cons (den_lc (List.range m) (fun (i : Nat) => PyData.int (i : Int)) _ (fun i => (LP.core hh wd (p i)).isEmpty) (fun (i : Nat) => .int (i : Int)) (it_range (dena_cons (den_var rfl (.int _)) dena_nil) (by omega)) (by rw [List.length_range]; omega) (fun _ _ => asg_name) fun i hi B1 σ1 eB ⟨y, hy, ey⟩ => by
    subst ey
    have hi := List.mem_range.mp hi
    refine ⟨rfl, Tst.to (tst_test (den_op (den_call (dena_cons (den_at_val (den_var rfl (v13.up eB)) (den_var rfl hy) hi) dena_nil) ⟨hh, wd, p i, k, rfl, rfl⟩) (den_lst dena_nil (by show 0 ≤ 100000; decide)) (rd_eqL (Ok.list (Ok.nats 0 _)) (by decide)))) (by unfold natL; rw [List.isEmpty_map]), fun _ => den_var rfl hy⟩) dena_nil) rc_tupL) dena_nil)) ⟨reachD m fun i => (LP.core hh wd (p i)).isEmpty, al_natL (hsz _), rfl, rfl⟩))) fun H14 e14 => ?_
  have e714 := (((((e8.trans e9).trans e10).trans e11).trans e12).trans e13).trans e14
  have T14 := T13.up e14
  have v14 := v13.up (hide_up (S := [r]) e14)
  have d14 := d13.up (hide_up (S := [r]) e14)
  -- teams
  refine q_new fun M hM => ?_
  have MS : M ∉ [r] := T14.not hM
  have TM : Tr [M, r] (upd H14 M (.lst [])) := (T14.up (Ex.new hM)).cons upd_same
  have oM : Ex (hide [r] H14) (hide [M, r] (upd H14 M (.lst []))) := hide_open hM (Ex.new hM)
  have dM := d14.up oM
  refine q_forD (List.range m) (fun (i : Nat) => PyData.int (i : Int)) TM (Ex.refl _) (it_range (dena_cons (den_var rfl (.int _)) dena_nil) (by omega)) fun H15 e15 => ?_
  refine ⟨fun i σ' H' => ∃ (y9 : Option V) (acc : List V), σ' = [some (.ref a), some (.ref r), some x1, some (.ref L), y4, some yv, some (.int ((m : Nat) : Int)), none, some xd, y9, some xs, some (.ref M), none, none, none, none, none, none] ∧ Ex H14 H' ∧ Ex (hide [M, r] H15) (hide [M, r] H') ∧ H' M = some (.lst acc) ∧ acc.length ≤ i ∧
      DnAll (hide [M, r] H') acc (((List.range m).take i).map fun i => intsD (team hh wd m p i)),
    ⟨none, [], by rw [em]; rfl, (Ex.new hM).trans e15, Ex.refl _, e15 M _ upd_same, Nat.le_refl _, .nil⟩, fun _ _ _ ⟨_, _, _, _, e, _⟩ => e.trans hide_le, ?_, ?_⟩
  · rintro i x σ' H' v H'' hg ⟨y9, acc, rfl, eH, eB2, hacc2, hlen2, hd2⟩ e3 hv
    have hxi : x = i ∧ i < m := by
      obtain ⟨h1, h2⟩ := List.getElem?_eq_some_iff.mp hg
      rw [List.length_range] at h1
      rw [List.getElem_range] at h2
      exact ⟨h2.symm, h1⟩
    obtain ⟨rfl, hi⟩ := hxi
    have TA : Tr [M, r] H' := (T14.up eH).cons hacc2
    have TB := TA.up e3
    have dB := ((dM.up (hide_up e15)).up eB2).up (hide_up (S := [M, r]) e3)
    refine asg_name [M, r] H'' v TB (hv [M, r] TA eB2) _ fun σ2 ⟨y, hy, ey⟩ => ?_
    subst ey
    refine s_appD TB (Ex.refl _) rfl (e3 M _ hacc2) (by omega) (Den.to (den_cb (dena_cons (den_lc (List.range m) (fun (j : Nat) => PyData.int (j : Int)) _ (fun j => can hh wd (p x) (p j) && can hh wd (p j) (p x)) (fun (j : Nat) => .int (j : Int)) (it_range (dena_cons (den_var rfl (.int ((m : Nat) : Int))) dena_nil) (by omega)) (by rw [List.length_range]; omega) (fun _ _ => asg_name) fun j hj B1 σ1 eB ⟨z, hz, ez⟩ => by
      subst ez
      have hj := List.mem_range.mp hj
      refine ⟨rfl, Tst.to (tst_and (tst_test (den_op (den_op (den_op (den_var rfl (dB.up eB)) (den_var rfl (hy.up eB)) (rd_ixL (hrow (i := x) hi))) (den_var rfl hz) (rd_ixL (hcell (i := x) hj))) den_non rd_notN)) fun _ => tst_test (den_op (den_op (den_op (den_var rfl (dB.up eB)) (den_var rfl hz) (rd_ixL (hrow (i := j) hj))) (den_var rfl (hy.up eB)) (rd_ixL (hcell (i := j) hi))) den_non rd_notN)) ?_, fun _ => den_var rfl hz⟩
      rw [isNone_optN, isNone_optN, Bool.not_not, Bool.not_not]
      rfl) dena_nil) rc_tupL) (show _ = intsD (team hh wd m p x) by unfold intsD team; rw [List.map_map]; rfl)) fun u H3 e4 hu => ?_
    have e34 := e3.trans e4
    refine ⟨some y, acc ++ [u], rfl, Ex.mut (eH.trans e34) hM, ?_, upd_same, ?_, ?_⟩
    · rw [hide_upd]
      exact eB2.trans (hide_up e34)
    · rw [List.length_append, List.length_singleton]
      omega
    · rw [hide_upd, List.take_add_one, hg, List.map_append]
      exact DnAll.snoc (hd2.up (hide_up e34)) hu
  rintro σ' H16 ⟨y9, acc2, rfl, e16, _, hacc2, _, hd2⟩
  rw [List.take_length] at hd2
  have T16 := T14.up e16
  have v16 := v14.up (hide_up (S := [r]) e16)
  have t16 : Dn (hide [r] H16) (.ref M) (.list ((teams hh wd m p).map intsD)) := by
    have := hide_list MS hacc2 hd2
    unfold teams
    rw [List.map_map]
    exact this
  have e716 := e714.trans e16
  have tlen : (teams hh wd m p).length = m := by
    unfold teams
    rw [List.length_map, List.length_range]
  have teamlen : ∀ i, (team hh wd m p i).length ≤ 1000 := fun i => by
    unfold team
    rw [List.length_map]
    exact hsz _
  -- groups
  obtain ⟨Ls, hasc⟩ := asc_has (teams hh wd m p)
  have alG : Al 4 (.tuple (Ls.map intsD)) := al_tup (by
    rw [List.length_map]
    have := nodup_le hasc.nd fun x hx => (hasc.mem x).mp hx
    omega) fun x hx => by
      obtain ⟨t, ht, rfl⟩ := List.mem_map.mp hx
      obtain ⟨i, _, rfl⟩ := List.mem_map.mp ((hasc.mem t).mp ht)
      exact al_ints (teamlen i)
  refine q_skip T16 (Ex.refl _) (tst_not (a := true) (tst_B (den_call (dena_cons (den_call (dena_cons (den_var rfl v16) dena_nil) ⟨hh, wd, m, p, vok, rfl, Ls, hasc, rfl⟩) (dena_cons (den_cb (dena_cons (den_sorted_set (den_var rfl t16) (by omega) (fun t ht => by
    obtain ⟨i, hi, rfl⟩ := List.mem_map.mp ht
    exact team_ne (List.mem_range.mp hi)) hasc) dena_nil) rc_tupL) dena_nil)) ⟨.tuple (Ls.map intsD), alG, rfl, rfl⟩))) fun H17 e17 => ?_
  have T17 := T16.up e17
  have v17 := v16.up (hide_up (S := [r]) e17)
  have t17 := t16.up (hide_up (S := [r]) e17)
  -- same_core
  have v17' : Dn (hide [r] H17) yv (.tuple (((List.range n).map fun i => picD hh wd (p i)) ++ [picD hh wd (p n)])) := by
    have := v17
    rw [em, val_last] at this
    exact this
  have hm1 : m - 1 = n := by omega
  refine q_skip T17 (Ex.refl _) (tst_not (a := true) (tst_B (den_call (dena_cons (den_call (dena_cons (den_at_val (i := 0) (den_var rfl v17) den_int m1) (dena_cons (den_op (den_var rfl v17') den_neg1 rd_ixLastT) dena_nil)) ⟨hh, wd, p 0, p n, k, rfl, rfl⟩) (dena_cons (Den.to (den_op (den_op (den_var rfl (.int ((m : Nat) : Int))) den_int rd_sub) (den_op (den_var rfl t17) den_int (rd_ixL (j := 0) (d := intsD (team hh wd m p 0)) (by
      unfold teams
      rw [List.map_map, List.getElem?_map, List.getElem?_range m1]
      rfl))) (rd_inT (neg := false) rfl (flat_ints _))) (by rw [if_neg Bool.false_ne_true, last_team m1, hm1])) dena_nil)) ⟨.bool (can hh wd (p 0) (p n) && can hh wd (p n) (p 0)), al_bool _, rfl, rfl⟩))) fun H18 e18 => ?_
  have T18 := T17.up e18
  have v18 := v17.up (hide_up (S := [r]) e18)
  have e718 := (e716.trans e17).trans e18
  have f18 := f7.up (hide_up (S := [r]) e718)
  -- cells
  refine q_setD T18 (Ex.refl _) den_int fun xz H19 e19 hz => ?_
  cases hz
  have T19 := T18.up e19
  have v19 := v18.up (hide_up (S := [r]) e19)
  have f19 := f18.up (hide_up (S := [r]) e19)
  let line : Nat → Nat := fun i => ((List.range wd).filter fun j => alikeAt m p i j).length
  refine q_forD (List.range hh) (fun (i : Nat) => PyData.int (i : Int)) T19 (Ex.refl _) (it_range (dena_cons (den_len_pic (den_var rfl f19)) dena_nil) (by omega)) fun H20 e20 => ?_
  refine ⟨fun i σ' H' => ∃ (y9 : Option V), σ' = [some (.ref a), some (.ref r), some x1, some (.ref L), y4, some yv, some (.int ((m : Nat) : Int)), none, some xd, y9, some xs, some (.ref M), some (.int ((((List.range hh).take i).map line).sum : Nat)), none, none, none, none, none] ∧ Ex H20 H', ⟨y9, rfl, Ex.refl _⟩, fun _ _ _ ⟨_, _, e⟩ => hide_le.trans e, ?_, ?_⟩
  · rintro i x σ' H' v H'' hg ⟨y9, rfl, e3⟩ e4 hv
    have hxi : x = i ∧ i < hh := by
      obtain ⟨h1, h2⟩ := List.getElem?_eq_some_iff.mp hg
      rw [List.length_range] at h1
      rw [List.getElem_range] at h2
      exact ⟨h2.symm, h1⟩
    obtain ⟨rfl, hi⟩ := hxi
    have e194 := e20.trans (e3.trans e4)
    have TB := T19.up e194
    refine asg_name [r] H'' v TB (hv [r] (T19.up (e20.trans e3)) (hide_up e3)) _ fun σ2 ⟨y, hy, ey⟩ => ?_
    subst ey
    have vB := v19.up (hide_up (S := [r]) e194)
    have fB := f19.up (hide_up (S := [r]) e194)
    refine s_setD TB (Ex.refl _) (den_op (den_var rfl (.int _)) (den_cb (dena_cons (den_lc (List.range wd) (fun (j : Nat) => PyData.int (j : Int)) _ (fun j => alikeAt m p x j) (fun (j : Nat) => .int (j : Int)) (it_range (dena_cons (den_len_row (den_row0 (den_var rfl fB) k1) k4) dena_nil) (by omega)) (by rw [List.length_range]; omega) (fun _ _ => asg_name) fun j hj B1 σ1 eB ⟨z, hz, ez⟩ => by
      subst ez
      have hj := List.mem_range.mp hj
      refine ⟨rfl, Tst.to (tst_test (den_op (den_lenSetS (xs := (List.range m).map fun kk => sgn (p kk x j)) (Den.to (den_lcM (List.range m) (fun i => picD hh wd (p i)) _ (fun kk => .str (sgn (p kk x j))) (it_val (den_var rfl (vB.up eB))) (by rw [List.length_range]; omega) (fun _ _ => asg_name) fun kk hk B2 σ2 eB2 ⟨u, hu, eu⟩ => by
        subst eu
        exact ⟨rfl, den_sign (den_row (den_var rfl hu) (den_var rfl ((hy.up eB).up eB2)) hi) (den_var rfl (hz.up eB2)) k4 hj⟩) (by rw [List.map_map]; rfl)) (by rw [List.length_map, List.length_range]; omega)) den_int rd_eqI)) (one_alike (h := hh) (wd := wd) x j m1), fun _ => den_var rfl hz⟩) dena_nil) rc_lenL) rd_addI) fun u H3 e5 hu => ?_
    cases hu
    refine ⟨some y, ?_, (e3.trans e4).trans e5⟩
    rw [List.take_add_one, hg, List.map_append, List.sum_append]
    show _ = [some (.ref a), some (.ref r), some x1, some (.ref L), y4, some yv, some (.int ((m : Nat) : Int)), none, some xd, some y, some xs, some (.ref M), some (V.int ((_ + (line x + 0) : Nat) : Int)), none, none, none, none, none]
    rw [Nat.add_zero, List.length_map, Int.natCast_add]
    rfl
  rintro σ' H21 ⟨y9', rfl, e21⟩
  rw [List.take_length]
  have e1921 := e20.trans e21
  have T21 := T19.up e1921
  have v21 := v19.up (hide_up (S := [r]) e1921)
  -- agree
  refine q_skip T21 (Ex.refl _) (tst_not (a := true) (tst_B (den_call (dena_cons (den_call (dena_cons (den_var rfl v21) dena_nil) ⟨hh, wd, m, p, vok, rfl, rfl⟩) (dena_cons (den_var (d := .int (agreeN hh wd m p : Nat)) rfl (.int _)) dena_nil)) ⟨.int (agreeN hh wd m p : Nat), al_int _, rfl, rfl⟩))) fun H22 e22 => ?_
  have e722 := ((e718.trans e19).trans e1921).trans e22
  have T22 := T7.up e722
  have R22 := R7.ex e722
  have v22 := v21.up (hide_up (S := [r]) e22)
  have f22 := f7.up (hide_up (S := [r]) e722)
  -- other
  refine q_setDD T22 R22 (Ex.refl _) (C := isPic hh wd) (denD_call (i := 1) rfl (denAD_cons (Den.dd (den_var rfl f22)) denAD_nil) fun l hc => ?_) fun xo d H23 m23 R23 hxo ⟨co, eo⟩ => ?_
  · obtain ⟨d, t, rfl, rfl, rfl⟩ := hc
    exact ⟨hh, wd, c1, k, rfl, rfl⟩
  subst eo
  have T23 := T22.mv m23 R23
  have v23 := v22.up (m23.ex R23.mem)
  -- ways there
  let f1 : Nat → Option Nat := fun i => LP.few hh wd co (p i)
  let f2 : Nat → Option Nat := fun i => LP.few hh wd (p i) co
  have tail : ∀ {te : TE} {σ : L2.St} {B : Hp} {ff : Nat → Option Nat}, Den te σ B (.list (waysD m ff)) → Den (tIf (tTest (tOp (rNeA K) te (tLst tNil))) (tCB (rMinD K) (tCons te tNil)) (tC .non)) σ B (nearD (waysD m ff)) := fun {te σ B ff} hy =>
    den_if (tst_test (den_op hy (den_lst dena_nil (by show 0 ≤ 100000; decide)) (rd_neL (Ok.list (ways_ok m ff)) (by decide)))) (fun hb => den_near hy fun z => by rw [z] at hb; cases hb) fun hb => Den.to den_non (by
      cases hc : waysD m ff with
      | nil => rfl
      | cons _ _ => rw [hc] at hb; cases hb)
  refine q_setD T23 (Ex.refl _) (Den.to (den_lc (List.range m) (fun (i : Nat) => PyData.int (i : Int)) _ (fun i => !isNone (optN (f1 i))) (fun i => PyData.tuple [optN (f1 i), .int (i : Int)]) (it_range (dena_cons (den_var rfl (.int ((m : Nat) : Int))) dena_nil) (by omega)) (by rw [List.length_range]; omega) (fun _ _ => asg_name) fun i hi B1 σ1 eB ⟨y, hy, ey⟩ => by
    subst ey
    have hi := List.mem_range.mp hi
    exact ⟨rfl, tst_test (den_op (den_call (dena_cons (den_var rfl (hxo.up eB)) (dena_cons (den_at_val (den_var rfl (v23.up eB)) (den_var rfl hy) hi) dena_nil)) ⟨hh, wd, co, p i, k, rfl, rfl⟩) den_non rd_notN), fun _ => den_tup (dena_cons (den_call (dena_cons (den_var rfl (hxo.up eB)) (dena_cons (den_at_val (den_var rfl (v23.up eB)) (den_var rfl hy) hi) dena_nil)) ⟨hh, wd, co, p i, k, rfl, rfl⟩) (dena_cons (den_var rfl hy) dena_nil)) (by show 2 ≤ 100000; decide)⟩) (congrArg PyData.list (filt_ways m f1))) fun xw H24 e24 hxw => ?_
  have T24 := T23.up e24
  have v24 := v23.up (hide_up (S := [r]) e24)
  have o24 := hxo.up (hide_up (S := [r]) e24)
  refine q_skip T24 (Ex.refl _) (tst_not (a := true) (tst_B (den_call (dena_cons (den_call (dena_cons (den_var rfl o24) (dena_cons (den_var rfl v24) dena_nil)) ⟨hh, wd, m, p, co, vok, rfl, rfl⟩) (dena_cons (tail (den_var rfl hxw)) dena_nil)) ⟨nearD (waysD m f1), al_near, rfl, rfl⟩))) fun H25 e25 => ?_
  have T25 := T24.up e25
  have v25 := v24.up (hide_up (S := [r]) e25)
  have o25 := o24.up (hide_up (S := [r]) e25)
  -- ways back
  refine q_setD T25 (Ex.refl _) (Den.to (den_lc (List.range m) (fun (i : Nat) => PyData.int (i : Int)) _ (fun i => !isNone (optN (f2 i))) (fun i => PyData.tuple [optN (f2 i), .int (i : Int)]) (it_range (dena_cons (den_var rfl (.int ((m : Nat) : Int))) dena_nil) (by omega)) (by rw [List.length_range]; omega) (fun _ _ => asg_name) fun i hi B1 σ1 eB ⟨y, hy, ey⟩ => by
    subst ey
    have hi := List.mem_range.mp hi
    exact ⟨rfl, tst_test (den_op (den_call (dena_cons (den_at_val (den_var rfl (v25.up eB)) (den_var rfl hy) hi) (dena_cons (den_var rfl (o25.up eB)) dena_nil)) ⟨hh, wd, p i, co, k, rfl, rfl⟩) den_non rd_notN), fun _ => den_tup (dena_cons (den_call (dena_cons (den_at_val (den_var rfl (v25.up eB)) (den_var rfl hy) hi) (dena_cons (den_var rfl (o25.up eB)) dena_nil)) ⟨hh, wd, p i, co, k, rfl, rfl⟩) (dena_cons (den_var rfl hy) dena_nil)) (by show 2 ≤ 100000; decide)⟩) (congrArg PyData.list (filt_ways m f2))) fun xw2 H26 e26 hxw2 => ?_
  have T26 := T25.up e26
  have v26 := v25.up (hide_up (S := [r]) e26)
  have o26 := o25.up (hide_up (S := [r]) e26)
  refine s_retD T26 (Ex.refl _) (den_call (dena_cons (den_call (dena_cons (den_var rfl v26) (dena_cons (den_var rfl o26) dena_nil)) ⟨hh, wd, m, p, co, vok, rfl, rfl⟩) (dena_cons (tail (den_var rfl hxw2)) dena_nil)) ⟨nearD (waysD m f2), al_near, rfl, rfl⟩) fun v5 H27 e27 hv5 => ?_
  cases hv5
  exact q H27
end
end LPW

/-! ## LpHead -/
/-! What the top has written of the names; the law's own head. -/
namespace LPW
open PySem PySem.Spec PyProof.Rows L2 Evl
section
variable {K : PySem.W.Frag} {h : Heap} {mg : Str → Option Value}
theorem at_is_int (X : K.In h) (G : h.Ns mainGlobals mg) {f : Addr} {od an : Option Addr} {sl : Array (Option Value)} {oc kV dc pm cd ct : Value} (a : PySem.W.nsIn K mainGlobals "is_int" = some (some (.ref f)))
    (l : K.lookup f = some ⟨oc, od, .func (PySem.W.fnOf "is_int" "is_int" (defArgs s_is_int) (defBody s_is_int) (defScope s_is_int) .none kV dc pm an cd ct), sl⟩) (c : PySem.W.codeIn K cd "is_int" = true) (k : PySem.W.keepIn K (.ref f) = true) : At K mg "is_int" s_is_int ["value"] :=
  ⟨f, _, PySem.W.mg_of X G a, fun_mk (st := s_is_int) l c k, (fun_mk (st := s_is_int) l c k).binds (ps := ["value"]) fun _ _ _ _ _ _ us hl => match us, hl with | [_], _ => rfl⟩
theorem at_is_in (X : K.In h) (G : h.Ns mainGlobals mg) {f : Addr} {od an : Option Addr} {sl : Array (Option Value)} {oc kV dc pm cd ct : Value} (a : PySem.W.nsIn K mainGlobals "is_in" = some (some (.ref f)))
    (l : K.lookup f = some ⟨oc, od, .func (PySem.W.fnOf "is_in" "is_in" (defArgs s_is_in) (defBody s_is_in) (defScope s_is_in) .none kV dc pm an cd ct), sl⟩) (c : PySem.W.codeIn K cd "is_in" = true) (k : PySem.W.keepIn K (.ref f) = true) : At K mg "is_in" s_is_in ["value", "least", "most"] :=
  ⟨f, _, PySem.W.mg_of X G a, fun_mk (st := s_is_in) l c k, (fun_mk (st := s_is_in) l c k).binds (ps := ["value", "least", "most"]) fun _ _ _ _ _ _ us hl => match us, hl with | [_, _, _], _ => rfl⟩
theorem at_need_number (X : K.In h) (G : h.Ns mainGlobals mg) {f : Addr} {od an : Option Addr} {sl : Array (Option Value)} {oc kV dc pm cd ct : Value} (a : PySem.W.nsIn K mainGlobals "need_number" = some (some (.ref f)))
    (l : K.lookup f = some ⟨oc, od, .func (PySem.W.fnOf "need_number" "need_number" (defArgs s_need_number) (defBody s_need_number) (defScope s_need_number) .none kV dc pm an cd ct), sl⟩) (c : PySem.W.codeIn K cd "need_number" = true) (k : PySem.W.keepIn K (.ref f) = true) : At K mg "need_number" s_need_number ["value", "least", "most"] :=
  ⟨f, _, PySem.W.mg_of X G a, fun_mk (st := s_need_number) l c k, (fun_mk (st := s_need_number) l c k).binds (ps := ["value", "least", "most"]) fun _ _ _ _ _ _ us hl => match us, hl with | [_, _, _], _ => rfl⟩
theorem at_is_picture (X : K.In h) (G : h.Ns mainGlobals mg) {f : Addr} {od an : Option Addr} {sl : Array (Option Value)} {oc kV dc pm cd ct : Value} (a : PySem.W.nsIn K mainGlobals "is_picture" = some (some (.ref f)))
    (l : K.lookup f = some ⟨oc, od, .func (PySem.W.fnOf "is_picture" "is_picture" (defArgs s_is_picture) (defBody s_is_picture) (defScope s_is_picture) .none kV dc pm an cd ct), sl⟩) (c : PySem.W.codeIn K cd "is_picture" = true) (k : PySem.W.keepIn K (.ref f) = true) : At K mg "is_picture" s_is_picture ["value"] :=
  ⟨f, _, PySem.W.mg_of X G a, fun_mk (st := s_is_picture) l c k, (fun_mk (st := s_is_picture) l c k).binds (ps := ["value"]) fun _ _ _ _ _ _ us hl => match us, hl with | [_], _ => rfl⟩
theorem at_need_picture (X : K.In h) (G : h.Ns mainGlobals mg) {f : Addr} {od an : Option Addr} {sl : Array (Option Value)} {oc kV dc pm cd ct : Value} (a : PySem.W.nsIn K mainGlobals "need_picture" = some (some (.ref f)))
    (l : K.lookup f = some ⟨oc, od, .func (PySem.W.fnOf "need_picture" "need_picture" (defArgs s_need_picture) (defBody s_need_picture) (defScope s_need_picture) .none kV dc pm an cd ct), sl⟩) (c : PySem.W.codeIn K cd "need_picture" = true) (k : PySem.W.keepIn K (.ref f) = true) : At K mg "need_picture" s_need_picture ["value"] :=
  ⟨f, _, PySem.W.mg_of X G a, fun_mk (st := s_need_picture) l c k, (fun_mk (st := s_need_picture) l c k).binds (ps := ["value"]) fun _ _ _ _ _ _ us hl => match us, hl with | [_], _ => rfl⟩
theorem at_lines_of (X : K.In h) (G : h.Ns mainGlobals mg) {f : Addr} {od an : Option Addr} {sl : Array (Option Value)} {oc kV dc pm cd ct : Value} (a : PySem.W.nsIn K mainGlobals "lines_of" = some (some (.ref f)))
    (l : K.lookup f = some ⟨oc, od, .func (PySem.W.fnOf "lines_of" "lines_of" (defArgs s_lines_of) (defBody s_lines_of) (defScope s_lines_of) .none kV dc pm an cd ct), sl⟩) (c : PySem.W.codeIn K cd "lines_of" = true) (k : PySem.W.keepIn K (.ref f) = true) : At K mg "lines_of" s_lines_of ["picture"] :=
  ⟨f, _, PySem.W.mg_of X G a, fun_mk (st := s_lines_of) l c k, (fun_mk (st := s_lines_of) l c k).binds (ps := ["picture"]) fun _ _ _ _ _ _ us hl => match us, hl with | [_], _ => rfl⟩
theorem at_differing (X : K.In h) (G : h.Ns mainGlobals mg) {f : Addr} {od an : Option Addr} {sl : Array (Option Value)} {oc kV dc pm cd ct : Value} (a : PySem.W.nsIn K mainGlobals "differing" = some (some (.ref f)))
    (l : K.lookup f = some ⟨oc, od, .func (PySem.W.fnOf "differing" "differing" (defArgs s_differing) (defBody s_differing) (defScope s_differing) .none kV dc pm an cd ct), sl⟩) (c : PySem.W.codeIn K cd "differing" = true) (k : PySem.W.keepIn K (.ref f) = true) : At K mg "differing" s_differing ["start", "goal"] :=
  ⟨f, _, PySem.W.mg_of X G a, fun_mk (st := s_differing) l c k, (fun_mk (st := s_differing) l c k).binds (ps := ["start", "goal"]) fun _ _ _ _ _ _ us hl => match us, hl with | [_, _], _ => rfl⟩
theorem at_leads_to (X : K.In h) (G : h.Ns mainGlobals mg) {f : Addr} {od an : Option Addr} {sl : Array (Option Value)} {oc kV dc pm cd ct : Value} (a : PySem.W.nsIn K mainGlobals "leads_to" = some (some (.ref f)))
    (l : K.lookup f = some ⟨oc, od, .func (PySem.W.fnOf "leads_to" "leads_to" (defArgs s_leads_to) (defBody s_leads_to) (defScope s_leads_to) .none kV dc pm an cd ct), sl⟩) (c : PySem.W.codeIn K cd "leads_to" = true) (k : PySem.W.keepIn K (.ref f) = true) : At K mg "leads_to" s_leads_to ["picture", "line"] :=
  ⟨f, _, PySem.W.mg_of X G a, fun_mk (st := s_leads_to) l c k, (fun_mk (st := s_leads_to) l c k).binds (ps := ["picture", "line"]) fun _ _ _ _ _ _ us hl => match us, hl with | [_, _], _ => rfl⟩
theorem at_layers_of (X : K.In h) (G : h.Ns mainGlobals mg) {f : Addr} {od an : Option Addr} {sl : Array (Option Value)} {oc kV dc pm cd ct : Value} (a : PySem.W.nsIn K mainGlobals "layers_of" = some (some (.ref f)))
    (l : K.lookup f = some ⟨oc, od, .func (PySem.W.fnOf "layers_of" "layers_of" (defArgs s_layers_of) (defBody s_layers_of) (defScope s_layers_of) .none kV dc pm an cd ct), sl⟩) (c : PySem.W.codeIn K cd "layers_of" = true) (k : PySem.W.keepIn K (.ref f) = true) : At K mg "layers_of" s_layers_of ["picture"] :=
  ⟨f, _, PySem.W.mg_of X G a, fun_mk (st := s_layers_of) l c k, (fun_mk (st := s_layers_of) l c k).binds (ps := ["picture"]) fun _ _ _ _ _ _ us hl => match us, hl with | [_], _ => rfl⟩
theorem at_core_of (X : K.In h) (G : h.Ns mainGlobals mg) {f : Addr} {od an : Option Addr} {sl : Array (Option Value)} {oc kV dc pm cd ct : Value} (a : PySem.W.nsIn K mainGlobals "core_of" = some (some (.ref f)))
    (l : K.lookup f = some ⟨oc, od, .func (PySem.W.fnOf "core_of" "core_of" (defArgs s_core_of) (defBody s_core_of) (defScope s_core_of) .none kV dc pm an cd ct), sl⟩) (c : PySem.W.codeIn K cd "core_of" = true) (k : PySem.W.keepIn K (.ref f) = true) : At K mg "core_of" s_core_of ["picture"] :=
  ⟨f, _, PySem.W.mg_of X G a, fun_mk (st := s_core_of) l c k, (fun_mk (st := s_core_of) l c k).binds (ps := ["picture"]) fun _ _ _ _ _ _ us hl => match us, hl with | [_], _ => rfl⟩
theorem at_is_free_of (X : K.In h) (G : h.Ns mainGlobals mg) {f : Addr} {od an : Option Addr} {sl : Array (Option Value)} {oc kV dc pm cd ct : Value} (a : PySem.W.nsIn K mainGlobals "is_free_of" = some (some (.ref f)))
    (l : K.lookup f = some ⟨oc, od, .func (PySem.W.fnOf "is_free_of" "is_free_of" (defArgs s_is_free_of) (defBody s_is_free_of) (defScope s_is_free_of) .none kV dc pm an cd ct), sl⟩) (c : PySem.W.codeIn K cd "is_free_of" = true) (k : PySem.W.keepIn K (.ref f) = true) : At K mg "is_free_of" s_is_free_of ["picture"] :=
  ⟨f, _, PySem.W.mg_of X G a, fun_mk (st := s_is_free_of) l c k, (fun_mk (st := s_is_free_of) l c k).binds (ps := ["picture"]) fun _ _ _ _ _ _ us hl => match us, hl with | [_], _ => rfl⟩
theorem at_meets (X : K.In h) (G : h.Ns mainGlobals mg) {f : Addr} {od an : Option Addr} {sl : Array (Option Value)} {oc kV dc pm cd ct : Value} (a : PySem.W.nsIn K mainGlobals "meets" = some (some (.ref f)))
    (l : K.lookup f = some ⟨oc, od, .func (PySem.W.fnOf "meets" "meets" (defArgs s_meets) (defBody s_meets) (defScope s_meets) .none kV dc pm an cd ct), sl⟩) (c : PySem.W.codeIn K cd "meets" = true) (k : PySem.W.keepIn K (.ref f) = true) : At K mg "meets" s_meets ["picture", "cell", "lines"] :=
  ⟨f, _, PySem.W.mg_of X G a, fun_mk (st := s_meets) l c k, (fun_mk (st := s_meets) l c k).binds (ps := ["picture", "cell", "lines"]) fun _ _ _ _ _ _ us hl => match us, hl with | [_, _, _], _ => rfl⟩
theorem at_trimmed (X : K.In h) (G : h.Ns mainGlobals mg) {f : Addr} {od an : Option Addr} {sl : Array (Option Value)} {oc kV dc pm cd ct : Value} (a : PySem.W.nsIn K mainGlobals "trimmed" = some (some (.ref f)))
    (l : K.lookup f = some ⟨oc, od, .func (PySem.W.fnOf "trimmed" "trimmed" (defArgs s_trimmed) (defBody s_trimmed) (defScope s_trimmed) .none kV dc pm an cd ct), sl⟩) (c : PySem.W.codeIn K cd "trimmed" = true) (k : PySem.W.keepIn K (.ref f) = true) : At K mg "trimmed" s_trimmed ["found"] :=
  ⟨f, _, PySem.W.mg_of X G a, fun_mk (st := s_trimmed) l c k, (fun_mk (st := s_trimmed) l c k).binds (ps := ["found"]) fun _ _ _ _ _ _ us hl => match us, hl with | [_], _ => rfl⟩
theorem at_least_of (X : K.In h) (G : h.Ns mainGlobals mg) {f : Addr} {od an : Option Addr} {sl : Array (Option Value)} {oc kV dc pm cd ct : Value} (a : PySem.W.nsIn K mainGlobals "least_of" = some (some (.ref f)))
    (l : K.lookup f = some ⟨oc, od, .func (PySem.W.fnOf "least_of" "least_of" (defArgs s_least_of) (defBody s_least_of) (defScope s_least_of) .none kV dc pm an cd ct), sl⟩) (c : PySem.W.codeIn K cd "least_of" = true) (k : PySem.W.keepIn K (.ref f) = true) : At K mg "least_of" s_least_of ["start", "goal"] :=
  ⟨f, _, PySem.W.mg_of X G a, fun_mk (st := s_least_of) l c k, (fun_mk (st := s_least_of) l c k).binds (ps := ["start", "goal"]) fun _ _ _ _ _ _ us hl => match us, hl with | [_, _], _ => rfl⟩
theorem at_few (X : K.In h) (G : h.Ns mainGlobals mg) {f : Addr} {od an : Option Addr} {sl : Array (Option Value)} {oc kV dc pm cd ct : Value} (a : PySem.W.nsIn K mainGlobals "few" = some (some (.ref f)))
    (l : K.lookup f = some ⟨oc, od, .func (PySem.W.fnOf "few" "few" (defArgs s_few) (defBody s_few) (defScope s_few) .none kV dc pm an cd ct), sl⟩) (c : PySem.W.codeIn K cd "few" = true) (k : PySem.W.keepIn K (.ref f) = true) : At K mg "few" s_few ["start", "goal"] :=
  ⟨f, _, PySem.W.mg_of X G a, fun_mk (st := s_few) l c k, (fun_mk (st := s_few) l c k).binds (ps := ["start", "goal"]) fun _ _ _ _ _ _ us hl => match us, hl with | [_, _], _ => rfl⟩
theorem at_need_list (X : K.In h) (G : h.Ns mainGlobals mg) {f : Addr} {od an : Option Addr} {sl : Array (Option Value)} {oc kV dc pm cd ct : Value} (a : PySem.W.nsIn K mainGlobals "need_list" = some (some (.ref f)))
    (l : K.lookup f = some ⟨oc, od, .func (PySem.W.fnOf "need_list" "need_list" (defArgs s_need_list) (defBody s_need_list) (defScope s_need_list) .none kV dc pm an cd ct), sl⟩) (c : PySem.W.codeIn K cd "need_list" = true) (k : PySem.W.keepIn K (.ref f) = true) : At K mg "need_list" s_need_list ["value"] :=
  ⟨f, _, PySem.W.mg_of X G a, fun_mk (st := s_need_list) l c k, (fun_mk (st := s_need_list) l c k).binds (ps := ["value"]) fun _ _ _ _ _ _ us hl => match us, hl with | [_], _ => rfl⟩
theorem at_need_like (X : K.In h) (G : h.Ns mainGlobals mg) {f : Addr} {od an : Option Addr} {sl : Array (Option Value)} {oc kV dc pm cd ct : Value} (a : PySem.W.nsIn K mainGlobals "need_like" = some (some (.ref f)))
    (l : K.lookup f = some ⟨oc, od, .func (PySem.W.fnOf "need_like" "need_like" (defArgs s_need_like) (defBody s_need_like) (defScope s_need_like) .none kV dc pm an cd ct), sl⟩) (c : PySem.W.codeIn K cd "need_like" = true) (k : PySem.W.keepIn K (.ref f) = true) : At K mg "need_like" s_need_like ["value"] :=
  ⟨f, _, PySem.W.mg_of X G a, fun_mk (st := s_need_like) l c k, (fun_mk (st := s_need_like) l c k).binds (ps := ["value"]) fun _ _ _ _ _ _ us hl => match us, hl with | [_], _ => rfl⟩
theorem at_need_pictures (X : K.In h) (G : h.Ns mainGlobals mg) {f : Addr} {od an : Option Addr} {sl : Array (Option Value)} {oc kV dc pm cd ct : Value} (a : PySem.W.nsIn K mainGlobals "need_pictures" = some (some (.ref f)))
    (l : K.lookup f = some ⟨oc, od, .func (PySem.W.fnOf "need_pictures" "need_pictures" (defArgs s_need_pictures) (defBody s_need_pictures) (defScope s_need_pictures) .none kV dc pm an cd ct), sl⟩) (c : PySem.W.codeIn K cd "need_pictures" = true) (k : PySem.W.keepIn K (.ref f) = true) : At K mg "need_pictures" s_need_pictures ["value"] :=
  ⟨f, _, PySem.W.mg_of X G a, fun_mk (st := s_need_pictures) l c k, (fun_mk (st := s_need_pictures) l c k).binds (ps := ["value"]) fun _ _ _ _ _ _ us hl => match us, hl with | [_], _ => rfl⟩
theorem at_table (X : K.In h) (G : h.Ns mainGlobals mg) {f : Addr} {od an : Option Addr} {sl : Array (Option Value)} {oc kV dc pm cd ct : Value} (a : PySem.W.nsIn K mainGlobals "table" = some (some (.ref f)))
    (l : K.lookup f = some ⟨oc, od, .func (PySem.W.fnOf "table" "table" (defArgs s_table) (defBody s_table) (defScope s_table) .none kV dc pm an cd ct), sl⟩) (c : PySem.W.codeIn K cd "table" = true) (k : PySem.W.keepIn K (.ref f) = true) : At K mg "table" s_table ["value"] :=
  ⟨f, _, PySem.W.mg_of X G a, fun_mk (st := s_table) l c k, (fun_mk (st := s_table) l c k).binds (ps := ["value"]) fun _ _ _ _ _ _ us hl => match us, hl with | [_], _ => rfl⟩
theorem at_along (X : K.In h) (G : h.Ns mainGlobals mg) {f : Addr} {od an : Option Addr} {sl : Array (Option Value)} {oc kV dc pm cd ct : Value} (a : PySem.W.nsIn K mainGlobals "along" = some (some (.ref f)))
    (l : K.lookup f = some ⟨oc, od, .func (PySem.W.fnOf "along" "along" (defArgs s_along) (defBody s_along) (defScope s_along) .none kV dc pm an cd ct), sl⟩) (c : PySem.W.codeIn K cd "along" = true) (k : PySem.W.keepIn K (.ref f) = true) : At K mg "along" s_along ["value"] :=
  ⟨f, _, PySem.W.mg_of X G a, fun_mk (st := s_along) l c k, (fun_mk (st := s_along) l c k).binds (ps := ["value"]) fun _ _ _ _ _ _ us hl => match us, hl with | [_], _ => rfl⟩
theorem at_reached_all (X : K.In h) (G : h.Ns mainGlobals mg) {f : Addr} {od an : Option Addr} {sl : Array (Option Value)} {oc kV dc pm cd ct : Value} (a : PySem.W.nsIn K mainGlobals "reached_all" = some (some (.ref f)))
    (l : K.lookup f = some ⟨oc, od, .func (PySem.W.fnOf "reached_all" "reached_all" (defArgs s_reached_all) (defBody s_reached_all) (defScope s_reached_all) .none kV dc pm an cd ct), sl⟩) (c : PySem.W.codeIn K cd "reached_all" = true) (k : PySem.W.keepIn K (.ref f) = true) : At K mg "reached_all" s_reached_all ["value"] :=
  ⟨f, _, PySem.W.mg_of X G a, fun_mk (st := s_reached_all) l c k, (fun_mk (st := s_reached_all) l c k).binds (ps := ["value"]) fun _ _ _ _ _ _ us hl => match us, hl with | [_], _ => rfl⟩
theorem at_from_all (X : K.In h) (G : h.Ns mainGlobals mg) {f : Addr} {od an : Option Addr} {sl : Array (Option Value)} {oc kV dc pm cd ct : Value} (a : PySem.W.nsIn K mainGlobals "from_all" = some (some (.ref f)))
    (l : K.lookup f = some ⟨oc, od, .func (PySem.W.fnOf "from_all" "from_all" (defArgs s_from_all) (defBody s_from_all) (defScope s_from_all) .none kV dc pm an cd ct), sl⟩) (c : PySem.W.codeIn K cd "from_all" = true) (k : PySem.W.keepIn K (.ref f) = true) : At K mg "from_all" s_from_all ["value"] :=
  ⟨f, _, PySem.W.mg_of X G a, fun_mk (st := s_from_all) l c k, (fun_mk (st := s_from_all) l c k).binds (ps := ["value"]) fun _ _ _ _ _ _ us hl => match us, hl with | [_], _ => rfl⟩
theorem at_free_ones (X : K.In h) (G : h.Ns mainGlobals mg) {f : Addr} {od an : Option Addr} {sl : Array (Option Value)} {oc kV dc pm cd ct : Value} (a : PySem.W.nsIn K mainGlobals "free_ones" = some (some (.ref f)))
    (l : K.lookup f = some ⟨oc, od, .func (PySem.W.fnOf "free_ones" "free_ones" (defArgs s_free_ones) (defBody s_free_ones) (defScope s_free_ones) .none kV dc pm an cd ct), sl⟩) (c : PySem.W.codeIn K cd "free_ones" = true) (k : PySem.W.keepIn K (.ref f) = true) : At K mg "free_ones" s_free_ones ["value"] :=
  ⟨f, _, PySem.W.mg_of X G a, fun_mk (st := s_free_ones) l c k, (fun_mk (st := s_free_ones) l c k).binds (ps := ["value"]) fun _ _ _ _ _ _ us hl => match us, hl with | [_], _ => rfl⟩
theorem at_same_core (X : K.In h) (G : h.Ns mainGlobals mg) {f : Addr} {od an : Option Addr} {sl : Array (Option Value)} {oc kV dc pm cd ct : Value} (a : PySem.W.nsIn K mainGlobals "same_core" = some (some (.ref f)))
    (l : K.lookup f = some ⟨oc, od, .func (PySem.W.fnOf "same_core" "same_core" (defArgs s_same_core) (defBody s_same_core) (defScope s_same_core) .none kV dc pm an cd ct), sl⟩) (c : PySem.W.codeIn K cd "same_core" = true) (k : PySem.W.keepIn K (.ref f) = true) : At K mg "same_core" s_same_core ["one", "other"] :=
  ⟨f, _, PySem.W.mg_of X G a, fun_mk (st := s_same_core) l c k, (fun_mk (st := s_same_core) l c k).binds (ps := ["one", "other"]) fun _ _ _ _ _ _ us hl => match us, hl with | [_, _], _ => rfl⟩
theorem at_groups (X : K.In h) (G : h.Ns mainGlobals mg) {f : Addr} {od an : Option Addr} {sl : Array (Option Value)} {oc kV dc pm cd ct : Value} (a : PySem.W.nsIn K mainGlobals "groups" = some (some (.ref f)))
    (l : K.lookup f = some ⟨oc, od, .func (PySem.W.fnOf "groups" "groups" (defArgs s_groups) (defBody s_groups) (defScope s_groups) .none kV dc pm an cd ct), sl⟩) (c : PySem.W.codeIn K cd "groups" = true) (k : PySem.W.keepIn K (.ref f) = true) : At K mg "groups" s_groups ["value"] :=
  ⟨f, _, PySem.W.mg_of X G a, fun_mk (st := s_groups) l c k, (fun_mk (st := s_groups) l c k).binds (ps := ["value"]) fun _ _ _ _ _ _ us hl => match us, hl with | [_], _ => rfl⟩
theorem at_agree (X : K.In h) (G : h.Ns mainGlobals mg) {f : Addr} {od an : Option Addr} {sl : Array (Option Value)} {oc kV dc pm cd ct : Value} (a : PySem.W.nsIn K mainGlobals "agree" = some (some (.ref f)))
    (l : K.lookup f = some ⟨oc, od, .func (PySem.W.fnOf "agree" "agree" (defArgs s_agree) (defBody s_agree) (defScope s_agree) .none kV dc pm an cd ct), sl⟩) (c : PySem.W.codeIn K cd "agree" = true) (k : PySem.W.keepIn K (.ref f) = true) : At K mg "agree" s_agree ["value"] :=
  ⟨f, _, PySem.W.mg_of X G a, fun_mk (st := s_agree) l c k, (fun_mk (st := s_agree) l c k).binds (ps := ["value"]) fun _ _ _ _ _ _ us hl => match us, hl with | [_], _ => rfl⟩
theorem at_nearest_goal (X : K.In h) (G : h.Ns mainGlobals mg) {f : Addr} {od an : Option Addr} {sl : Array (Option Value)} {oc kV dc pm cd ct : Value} (a : PySem.W.nsIn K mainGlobals "nearest_goal" = some (some (.ref f)))
    (l : K.lookup f = some ⟨oc, od, .func (PySem.W.fnOf "nearest_goal" "nearest_goal" (defArgs s_nearest_goal) (defBody s_nearest_goal) (defScope s_nearest_goal) .none kV dc pm an cd ct), sl⟩) (c : PySem.W.codeIn K cd "nearest_goal" = true) (k : PySem.W.keepIn K (.ref f) = true) : At K mg "nearest_goal" s_nearest_goal ["start", "value"] :=
  ⟨f, _, PySem.W.mg_of X G a, fun_mk (st := s_nearest_goal) l c k, (fun_mk (st := s_nearest_goal) l c k).binds (ps := ["start", "value"]) fun _ _ _ _ _ _ us hl => match us, hl with | [_, _], _ => rfl⟩
theorem at_nearest_start (X : K.In h) (G : h.Ns mainGlobals mg) {f : Addr} {od an : Option Addr} {sl : Array (Option Value)} {oc kV dc pm cd ct : Value} (a : PySem.W.nsIn K mainGlobals "nearest_start" = some (some (.ref f)))
    (l : K.lookup f = some ⟨oc, od, .func (PySem.W.fnOf "nearest_start" "nearest_start" (defArgs s_nearest_start) (defBody s_nearest_start) (defScope s_nearest_start) .none kV dc pm an cd ct), sl⟩) (c : PySem.W.codeIn K cd "nearest_start" = true) (k : PySem.W.keepIn K (.ref f) = true) : At K mg "nearest_start" s_nearest_start ["value", "goal"] :=
  ⟨f, _, PySem.W.mg_of X G a, fun_mk (st := s_nearest_start) l c k, (fun_mk (st := s_nearest_start) l c k).binds (ps := ["value", "goal"]) fun _ _ _ _ _ _ us hl => match us, hl with | [_, _], _ => rfl⟩
theorem at_law_taken (X : K.In h) (G : h.Ns mainGlobals mg) {f : Addr} {od an : Option Addr} {sl : Array (Option Value)} {oc kV dc pm cd ct : Value} (a : PySem.W.nsIn K mainGlobals "_law_taken" = some (some (.ref f)))
    (l : K.lookup f = some ⟨oc, od, .func (PySem.W.fnOf "_law_taken" "_law_taken" (defArgs s_law_taken) (defBody s_law_taken) (defScope s_law_taken) .none kV dc pm an cd ct), sl⟩) (c : PySem.W.codeIn K cd "_law_taken" = true) (k : PySem.W.keepIn K (.ref f) = true) : At K mg "_law_taken" s_law_taken ["_law_row", "_law_many"] :=
  ⟨f, _, PySem.W.mg_of X G a, fun_mk (st := s_law_taken) l c k, (fun_mk (st := s_law_taken) l c k).binds (ps := ["_law_row", "_law_many"]) fun _ _ _ _ _ _ us hl => match us, hl with | [_, _], _ => rfl⟩
theorem at_law_pick (X : K.In h) (G : h.Ns mainGlobals mg) {f : Addr} {od an : Option Addr} {sl : Array (Option Value)} {oc kV dc pm cd ct : Value} (a : PySem.W.nsIn K mainGlobals "_law_pick" = some (some (.ref f)))
    (l : K.lookup f = some ⟨oc, od, .func (PySem.W.fnOf "_law_pick" "_law_pick" (defArgs s_law_pick) (defBody s_law_pick) (defScope s_law_pick) .none kV dc pm an cd ct), sl⟩) (c : PySem.W.codeIn K cd "_law_pick" = true) (k : PySem.W.keepIn K (.ref f) = true) : At K mg "_law_pick" s_law_pick ["_law_row", "_law_things"] :=
  ⟨f, _, PySem.W.mg_of X G a, fun_mk (st := s_law_pick) l c k, (fun_mk (st := s_law_pick) l c k).binds (ps := ["_law_row", "_law_things"]) fun _ _ _ _ _ _ us hl => match us, hl with | [_, _], _ => rfl⟩
theorem at_law_alike (X : K.In h) (G : h.Ns mainGlobals mg) {f : Addr} {od an : Option Addr} {sl : Array (Option Value)} {oc kV dc pm cd ct : Value} (a : PySem.W.nsIn K mainGlobals "_law_alike" = some (some (.ref f)))
    (l : K.lookup f = some ⟨oc, od, .func (PySem.W.fnOf "_law_alike" "_law_alike" (defArgs s_law_alike) (defBody s_law_alike) (defScope s_law_alike) .none kV dc pm an cd ct), sl⟩) (c : PySem.W.codeIn K cd "_law_alike" = true) (k : PySem.W.keepIn K (.ref f) = true) : At K mg "_law_alike" s_law_alike ["_law_found", "_law_due"] :=
  ⟨f, _, PySem.W.mg_of X G a, fun_mk (st := s_law_alike) l c k, (fun_mk (st := s_law_alike) l c k).binds (ps := ["_law_found", "_law_due"]) fun _ _ _ _ _ _ us hl => match us, hl with | [_, _], _ => rfl⟩
theorem at_law_mixed (X : K.In h) (G : h.Ns mainGlobals mg) {f : Addr} {od an : Option Addr} {sl : Array (Option Value)} {oc kV dc pm cd ct : Value} (a : PySem.W.nsIn K mainGlobals "_law_mixed" = some (some (.ref f)))
    (l : K.lookup f = some ⟨oc, od, .func (PySem.W.fnOf "_law_mixed" "_law_mixed" (defArgs s_law_mixed) (defBody s_law_mixed) (defScope s_law_mixed) .none kV dc pm an cd ct), sl⟩) (c : PySem.W.codeIn K cd "_law_mixed" = true) (k : PySem.W.keepIn K (.ref f) = true) : At K mg "_law_mixed" s_law_mixed ["_law_row", "_law_some"] :=
  ⟨f, _, PySem.W.mg_of X G a, fun_mk (st := s_law_mixed) l c k, (fun_mk (st := s_law_mixed) l c k).binds (ps := ["_law_row", "_law_some"]) fun _ _ _ _ _ _ us hl => match us, hl with | [_, _], _ => rfl⟩
theorem at_law_any (X : K.In h) (G : h.Ns mainGlobals mg) {f : Addr} {od an : Option Addr} {sl : Array (Option Value)} {oc kV dc pm cd ct : Value} (a : PySem.W.nsIn K mainGlobals "_law_any" = some (some (.ref f)))
    (l : K.lookup f = some ⟨oc, od, .func (PySem.W.fnOf "_law_any" "_law_any" (defArgs s_law_any) (defBody s_law_any) (defScope s_law_any) .none kV dc pm an cd ct), sl⟩) (c : PySem.W.codeIn K cd "_law_any" = true) (k : PySem.W.keepIn K (.ref f) = true) : At K mg "_law_any" s_law_any ["_law_row", "_law_high", "_law_wide"] :=
  ⟨f, _, PySem.W.mg_of X G a, fun_mk (st := s_law_any) l c k, (fun_mk (st := s_law_any) l c k).binds (ps := ["_law_row", "_law_high", "_law_wide"]) fun _ _ _ _ _ _ us hl => match us, hl with | [_, _, _], _ => rfl⟩
theorem at_law_paint (X : K.In h) (G : h.Ns mainGlobals mg) {f : Addr} {od an : Option Addr} {sl : Array (Option Value)} {oc kV dc pm cd ct : Value} (a : PySem.W.nsIn K mainGlobals "_law_paint" = some (some (.ref f)))
    (l : K.lookup f = some ⟨oc, od, .func (PySem.W.fnOf "_law_paint" "_law_paint" (defArgs s_law_paint) (defBody s_law_paint) (defScope s_law_paint) .none kV dc pm an cd ct), sl⟩) (c : PySem.W.codeIn K cd "_law_paint" = true) (k : PySem.W.keepIn K (.ref f) = true) : At K mg "_law_paint" s_law_paint ["_law_picture_here", "_law_line"] :=
  ⟨f, _, PySem.W.mg_of X G a, fun_mk (st := s_law_paint) l c k, (fun_mk (st := s_law_paint) l c k).binds (ps := ["_law_picture_here", "_law_line"]) fun _ _ _ _ _ _ us hl => match us, hl with | [_, _], _ => rfl⟩
theorem at_law_painted (X : K.In h) (G : h.Ns mainGlobals mg) {f : Addr} {od an : Option Addr} {sl : Array (Option Value)} {oc kV dc pm cd ct : Value} (a : PySem.W.nsIn K mainGlobals "_law_painted" = some (some (.ref f)))
    (l : K.lookup f = some ⟨oc, od, .func (PySem.W.fnOf "_law_painted" "_law_painted" (defArgs s_law_painted) (defBody s_law_painted) (defScope s_law_painted) .none kV dc pm an cd ct), sl⟩) (c : PySem.W.codeIn K cd "_law_painted" = true) (k : PySem.W.keepIn K (.ref f) = true) : At K mg "_law_painted" s_law_painted ["_law_picture_here", "_law_deeds_here"] :=
  ⟨f, _, PySem.W.mg_of X G a, fun_mk (st := s_law_painted) l c k, (fun_mk (st := s_law_painted) l c k).binds (ps := ["_law_picture_here", "_law_deeds_here"]) fun _ _ _ _ _ _ us hl => match us, hl with | [_, _], _ => rfl⟩
theorem at_law_deeds (X : K.In h) (G : h.Ns mainGlobals mg) {f : Addr} {od an : Option Addr} {sl : Array (Option Value)} {oc kV dc pm cd ct : Value} (a : PySem.W.nsIn K mainGlobals "_law_deeds" = some (some (.ref f)))
    (l : K.lookup f = some ⟨oc, od, .func (PySem.W.fnOf "_law_deeds" "_law_deeds" (defArgs s_law_deeds) (defBody s_law_deeds) (defScope s_law_deeds) .none kV dc pm an cd ct), sl⟩) (c : PySem.W.codeIn K cd "_law_deeds" = true) (k : PySem.W.keepIn K (.ref f) = true) : At K mg "_law_deeds" s_law_deeds ["_law_row", "_law_picture_here", "_law_most"] :=
  ⟨f, _, PySem.W.mg_of X G a, fun_mk (st := s_law_deeds) l c k, (fun_mk (st := s_law_deeds) l c k).binds (ps := ["_law_row", "_law_picture_here", "_law_most"]) fun _ _ _ _ _ _ us hl => match us, hl with | [_, _, _], _ => rfl⟩
theorem at_law_picture (X : K.In h) (G : h.Ns mainGlobals mg) {f : Addr} {od an : Option Addr} {sl : Array (Option Value)} {oc kV dc pm cd ct : Value} (a : PySem.W.nsIn K mainGlobals "_law_picture" = some (some (.ref f)))
    (l : K.lookup f = some ⟨oc, od, .func (PySem.W.fnOf "_law_picture" "_law_picture" (defArgs s_law_picture) (defBody s_law_picture) (defScope s_law_picture) .none kV dc pm an cd ct), sl⟩) (c : PySem.W.codeIn K cd "_law_picture" = true) (k : PySem.W.keepIn K (.ref f) = true) : At K mg "_law_picture" s_law_picture ["_law_row", "_law_most"] :=
  ⟨f, _, PySem.W.mg_of X G a, fun_mk (st := s_law_picture) l c k, (fun_mk (st := s_law_picture) l c k).binds (ps := ["_law_row", "_law_most"]) fun _ _ _ _ _ _ us hl => match us, hl with | [_, _], _ => rfl⟩
theorem at_law_layers (X : K.In h) (G : h.Ns mainGlobals mg) {f : Addr} {od an : Option Addr} {sl : Array (Option Value)} {oc kV dc pm cd ct : Value} (a : PySem.W.nsIn K mainGlobals "_law_layers" = some (some (.ref f)))
    (l : K.lookup f = some ⟨oc, od, .func (PySem.W.fnOf "_law_layers" "_law_layers" (defArgs s_law_layers) (defBody s_law_layers) (defScope s_law_layers) .none kV dc pm an cd ct), sl⟩) (c : PySem.W.codeIn K cd "_law_layers" = true) (k : PySem.W.keepIn K (.ref f) = true) : At K mg "_law_layers" s_law_layers ["_law_picture_here"] :=
  ⟨f, _, PySem.W.mg_of X G a, fun_mk (st := s_law_layers) l c k, (fun_mk (st := s_law_layers) l c k).binds (ps := ["_law_picture_here"]) fun _ _ _ _ _ _ us hl => match us, hl with | [_], _ => rfl⟩
theorem at_law_core (X : K.In h) (G : h.Ns mainGlobals mg) {f : Addr} {od an : Option Addr} {sl : Array (Option Value)} {oc kV dc pm cd ct : Value} (a : PySem.W.nsIn K mainGlobals "_law_core" = some (some (.ref f)))
    (l : K.lookup f = some ⟨oc, od, .func (PySem.W.fnOf "_law_core" "_law_core" (defArgs s_law_core) (defBody s_law_core) (defScope s_law_core) .none kV dc pm an cd ct), sl⟩) (c : PySem.W.codeIn K cd "_law_core" = true) (k : PySem.W.keepIn K (.ref f) = true) : At K mg "_law_core" s_law_core ["_law_picture_here"] :=
  ⟨f, _, PySem.W.mg_of X G a, fun_mk (st := s_law_core) l c k, (fun_mk (st := s_law_core) l c k).binds (ps := ["_law_picture_here"]) fun _ _ _ _ _ _ us hl => match us, hl with | [_], _ => rfl⟩
theorem at_law_start (X : K.In h) (G : h.Ns mainGlobals mg) {f : Addr} {od an : Option Addr} {sl : Array (Option Value)} {oc kV dc pm cd ct : Value} (a : PySem.W.nsIn K mainGlobals "_law_start" = some (some (.ref f)))
    (l : K.lookup f = some ⟨oc, od, .func (PySem.W.fnOf "_law_start" "_law_start" (defArgs s_law_start) (defBody s_law_start) (defScope s_law_start) .none kV dc pm an cd ct), sl⟩) (c : PySem.W.codeIn K cd "_law_start" = true) (k : PySem.W.keepIn K (.ref f) = true) : At K mg "_law_start" s_law_start ["_law_row", "_law_goal"] :=
  ⟨f, _, PySem.W.mg_of X G a, fun_mk (st := s_law_start) l c k, (fun_mk (st := s_law_start) l c k).binds (ps := ["_law_row", "_law_goal"]) fun _ _ _ _ _ _ us hl => match us, hl with | [_, _], _ => rfl⟩
theorem at_law_differ (X : K.In h) (G : h.Ns mainGlobals mg) {f : Addr} {od an : Option Addr} {sl : Array (Option Value)} {oc kV dc pm cd ct : Value} (a : PySem.W.nsIn K mainGlobals "_law_differ" = some (some (.ref f)))
    (l : K.lookup f = some ⟨oc, od, .func (PySem.W.fnOf "_law_differ" "_law_differ" (defArgs s_law_differ) (defBody s_law_differ) (defScope s_law_differ) .none kV dc pm an cd ct), sl⟩) (c : PySem.W.codeIn K cd "_law_differ" = true) (k : PySem.W.keepIn K (.ref f) = true) : At K mg "_law_differ" s_law_differ ["_law_start_here", "_law_goal"] :=
  ⟨f, _, PySem.W.mg_of X G a, fun_mk (st := s_law_differ) l c k, (fun_mk (st := s_law_differ) l c k).binds (ps := ["_law_start_here", "_law_goal"]) fun _ _ _ _ _ _ us hl => match us, hl with | [_, _], _ => rfl⟩
theorem at_law_least (X : K.In h) (G : h.Ns mainGlobals mg) {f : Addr} {od an : Option Addr} {sl : Array (Option Value)} {oc kV dc pm cd ct : Value} (a : PySem.W.nsIn K mainGlobals "_law_least" = some (some (.ref f)))
    (l : K.lookup f = some ⟨oc, od, .func (PySem.W.fnOf "_law_least" "_law_least" (defArgs s_law_least) (defBody s_law_least) (defScope s_law_least) .none kV dc pm an cd ct), sl⟩) (c : PySem.W.codeIn K cd "_law_least" = true) (k : PySem.W.keepIn K (.ref f) = true) : At K mg "_law_least" s_law_least ["_law_start_here", "_law_goal"] :=
  ⟨f, _, PySem.W.mg_of X G a, fun_mk (st := s_law_least) l c k, (fun_mk (st := s_law_least) l c k).binds (ps := ["_law_start_here", "_law_goal"]) fun _ _ _ _ _ _ us hl => match us, hl with | [_, _], _ => rfl⟩
theorem at_law_few (X : K.In h) (G : h.Ns mainGlobals mg) {f : Addr} {od an : Option Addr} {sl : Array (Option Value)} {oc kV dc pm cd ct : Value} (a : PySem.W.nsIn K mainGlobals "_law_few" = some (some (.ref f)))
    (l : K.lookup f = some ⟨oc, od, .func (PySem.W.fnOf "_law_few" "_law_few" (defArgs s_law_few) (defBody s_law_few) (defScope s_law_few) .none kV dc pm an cd ct), sl⟩) (c : PySem.W.codeIn K cd "_law_few" = true) (k : PySem.W.keepIn K (.ref f) = true) : At K mg "_law_few" s_law_few ["_law_start_here", "_law_goal"] :=
  ⟨f, _, PySem.W.mg_of X G a, fun_mk (st := s_law_few) l c k, (fun_mk (st := s_law_few) l c k).binds (ps := ["_law_start_here", "_law_goal"]) fun _ _ _ _ _ _ us hl => match us, hl with | [_, _], _ => rfl⟩
theorem gl_BLACK (X : K.In h) (G : h.Ns mainGlobals mg) {t : Tok} (a : PySem.W.nsIn K mainGlobals "BLACK" = some (some (.str "#" t))) : ∃ t, mg "BLACK" = some (.str "#" t) := ⟨t, PySem.W.mg_of X G a⟩
theorem gl_WHITE (X : K.In h) (G : h.Ns mainGlobals mg) {t : Tok} (a : PySem.W.nsIn K mainGlobals "WHITE" = some (some (.str "." t))) : ∃ t, mg "WHITE" = some (.str "." t) := ⟨t, PySem.W.mg_of X G a⟩
theorem gl_MOST_SIDE (X : K.In h) (G : h.Ns mainGlobals mg) {t : Tok} (a : PySem.W.nsIn K mainGlobals "MOST_SIDE" = some (some (.int 30 t))) : ∃ t, mg "MOST_SIDE" = some (.int 30 t) := ⟨t, PySem.W.mg_of X G a⟩
theorem gl_MOST_PICTURES (X : K.In h) (G : h.Ns mainGlobals mg) {t : Tok} (a : PySem.W.nsIn K mainGlobals "MOST_PICTURES" = some (some (.int 20 t))) : ∃ t, mg "MOST_PICTURES" = some (.int 20 t) := ⟨t, PySem.W.mg_of X G a⟩
end
theorem law_at {l : PySem.W.OpenLaw} {w : World} {K : PySem.W.Frag} {h : Heap} {mg : Str → Option Value} {fa f0 : Addr} (X : K.In h) (G : h.Ns mainGlobals mg) (hfa : mg "law" = some (.ref fa)) (T : Tx mg)
    {od an : Option Addr} {sl : Array (Option Value)} {oc kV dc pm cd ct : Value} (a : PySem.W.nsIn K mainGlobals "law" = some (some (.ref f0)))
    (lk : K.lookup f0 = some ⟨oc, od, .func (PySem.W.fnOf "law" "law" (defArgs s_law) (defBody s_law) (defScope s_law) .none kV dc pm an cd ct), sl⟩) (c : PySem.W.codeIn K cd "law" = true) (k : PySem.W.keepIn K (.ref f0) = true)
    (a_is_int : At K mg "is_int" s_is_int ["value"])
    (a_is_in : At K mg "is_in" s_is_in ["value", "least", "most"])
    (a_need_number : At K mg "need_number" s_need_number ["value", "least", "most"])
    (a_is_picture : At K mg "is_picture" s_is_picture ["value"])
    (a_need_picture : At K mg "need_picture" s_need_picture ["value"])
    (a_lines_of : At K mg "lines_of" s_lines_of ["picture"])
    (a_differing : At K mg "differing" s_differing ["start", "goal"])
    (a_leads_to : At K mg "leads_to" s_leads_to ["picture", "line"])
    (a_layers_of : At K mg "layers_of" s_layers_of ["picture"])
    (a_core_of : At K mg "core_of" s_core_of ["picture"])
    (a_is_free_of : At K mg "is_free_of" s_is_free_of ["picture"])
    (a_meets : At K mg "meets" s_meets ["picture", "cell", "lines"])
    (a_trimmed : At K mg "trimmed" s_trimmed ["found"])
    (a_least_of : At K mg "least_of" s_least_of ["start", "goal"])
    (a_few : At K mg "few" s_few ["start", "goal"])
    (a_need_list : At K mg "need_list" s_need_list ["value"])
    (a_need_like : At K mg "need_like" s_need_like ["value"])
    (a_need_pictures : At K mg "need_pictures" s_need_pictures ["value"])
    (a_table : At K mg "table" s_table ["value"])
    (a_along : At K mg "along" s_along ["value"])
    (a_reached_all : At K mg "reached_all" s_reached_all ["value"])
    (a_from_all : At K mg "from_all" s_from_all ["value"])
    (a_free_ones : At K mg "free_ones" s_free_ones ["value"])
    (a_same_core : At K mg "same_core" s_same_core ["one", "other"])
    (a_groups : At K mg "groups" s_groups ["value"])
    (a_agree : At K mg "agree" s_agree ["value"])
    (a_nearest_goal : At K mg "nearest_goal" s_nearest_goal ["start", "value"])
    (a_nearest_start : At K mg "nearest_start" s_nearest_start ["value", "goal"])
    (a_law_taken : At K mg "_law_taken" s_law_taken ["_law_row", "_law_many"])
    (a_law_pick : At K mg "_law_pick" s_law_pick ["_law_row", "_law_things"])
    (a_law_alike : At K mg "_law_alike" s_law_alike ["_law_found", "_law_due"])
    (a_law_mixed : At K mg "_law_mixed" s_law_mixed ["_law_row", "_law_some"])
    (a_law_any : At K mg "_law_any" s_law_any ["_law_row", "_law_high", "_law_wide"])
    (a_law_paint : At K mg "_law_paint" s_law_paint ["_law_picture_here", "_law_line"])
    (a_law_painted : At K mg "_law_painted" s_law_painted ["_law_picture_here", "_law_deeds_here"])
    (a_law_deeds : At K mg "_law_deeds" s_law_deeds ["_law_row", "_law_picture_here", "_law_most"])
    (a_law_picture : At K mg "_law_picture" s_law_picture ["_law_row", "_law_most"])
    (a_law_layers : At K mg "_law_layers" s_law_layers ["_law_picture_here"])
    (a_law_core : At K mg "_law_core" s_law_core ["_law_picture_here"])
    (a_law_start : At K mg "_law_start" s_law_start ["_law_row", "_law_goal"])
    (a_law_differ : At K mg "_law_differ" s_law_differ ["_law_start_here", "_law_goal"])
    (a_law_least : At K mg "_law_least" s_law_least ["_law_start_here", "_law_goal"])
    (a_law_few : At K mg "_law_few" s_law_few ["_law_start_here", "_law_goal"])
    : ∃ fd : FuncData, (∀ (s : Shared) (v : Value), BindsTo s fd ⟨[v], []⟩ [("_law_script", v)]) ∧ ∀ base : Heap, K.In base → base.Ns mainGlobals mg → FnOk l.prog w K mg base CX0 7 fa fd ["_law_script"] (spLaw K) := by
  have e := hfa.symm.trans (PySem.W.mg_of X G a)
  cases e
  refine ⟨PySem.W.fnOf "law" "law" (defArgs s_law) (defBody s_law) (defScope s_law) .none kV dc pm an cd ct, fun s v => .of_eq rfl, fun base _ _ => ?_⟩
  have c_is_int := ok_is_int (P := l.prog) (w := w) (base := base) T a_is_int
  have c_is_in := ok_is_in (P := l.prog) (w := w) (base := base) T a_is_in c_is_int
  have c_need_number := ok_need_number (P := l.prog) (w := w) (base := base) T a_need_number c_is_in
  have c_is_picture := ok_is_picture (P := l.prog) (w := w) (base := base) T a_is_picture
  have c_need_picture := ok_need_picture (P := l.prog) (w := w) (base := base) T a_need_picture c_is_picture
  have c_lines_of := ok_lines_of (P := l.prog) (w := w) (base := base) T a_lines_of
  have c_differing := ok_differing (P := l.prog) (w := w) (base := base) T a_differing
  have c_leads_to := ok_leads_to (P := l.prog) (w := w) (base := base) T a_leads_to
  have c_layers_of := ok_layers_of (P := l.prog) (w := w) (base := base) T a_layers_of c_lines_of c_leads_to
  have c_core_of := ok_core_of (P := l.prog) (w := w) (base := base) T a_core_of c_lines_of c_layers_of
  have c_is_free_of := ok_is_free_of (P := l.prog) (w := w) (base := base) T a_is_free_of c_core_of
  have c_meets := ok_meets (P := l.prog) (w := w) (base := base) T a_meets
  have c_trimmed := ok_trimmed (P := l.prog) (w := w) (base := base) T a_trimmed
  have c_least_of := ok_least_of (P := l.prog) (w := w) (base := base) T a_least_of c_differing c_layers_of c_trimmed c_meets
  have c_few := ok_few (P := l.prog) (w := w) (base := base) T a_few c_least_of
  have c_need_list := ok_need_list (P := l.prog) (w := w) (base := base) T a_need_list c_need_number c_need_picture
  have c_need_like := ok_need_like (P := l.prog) (w := w) (base := base) T a_need_like
  have c_need_pictures := ok_need_pictures (P := l.prog) (w := w) (base := base) T a_need_pictures c_need_list c_need_like
  have c_table := ok_table (P := l.prog) (w := w) (base := base) T a_table c_need_pictures c_few
  have c_along := ok_along (P := l.prog) (w := w) (base := base) T a_along c_need_pictures c_few
  have c_reached_all := ok_reached_all (P := l.prog) (w := w) (base := base) T a_reached_all c_need_pictures c_least_of
  have c_from_all := ok_from_all (P := l.prog) (w := w) (base := base) T a_from_all c_need_pictures c_least_of
  have c_free_ones := ok_free_ones (P := l.prog) (w := w) (base := base) T a_free_ones c_need_pictures c_is_free_of
  have c_same_core := ok_same_core (P := l.prog) (w := w) (base := base) T a_same_core c_need_picture c_need_like c_least_of
  have c_groups := ok_groups (P := l.prog) (w := w) (base := base) T a_groups c_need_pictures c_least_of
  have c_agree := ok_agree (P := l.prog) (w := w) (base := base) T a_agree c_need_pictures
  have c_nearest_goal := ok_nearest_goal (P := l.prog) (w := w) (base := base) T a_nearest_goal c_need_picture c_need_list c_need_like c_few
  have c_nearest_start := ok_nearest_start (P := l.prog) (w := w) (base := base) T a_nearest_start c_need_picture c_need_list c_need_like c_few
  have c_law_taken := ok_law_taken (P := l.prog) (w := w) (base := base) T a_law_taken
  have c_law_pick := ok_law_pick (P := l.prog) (w := w) (base := base) T a_law_pick c_law_taken
  have c_law_alike := ok_law_alike (P := l.prog) (w := w) (base := base) T a_law_alike 4
  have c_law_mixed := ok_law_mixed (P := l.prog) (w := w) (base := base) T a_law_mixed c_law_taken
  have c_law_any := ok_law_any (P := l.prog) (w := w) (base := base) T a_law_any c_law_taken c_law_pick
  have c_law_paint := ok_law_paint (P := l.prog) (w := w) (base := base) T a_law_paint
  have c_law_painted := ok_law_painted (P := l.prog) (w := w) (base := base) T a_law_painted c_law_paint
  have c_law_deeds := ok_law_deeds (P := l.prog) (w := w) (base := base) T a_law_deeds c_law_taken
  have c_law_picture := ok_law_picture (P := l.prog) (w := w) (base := base) T a_law_picture c_law_taken c_law_any c_law_painted c_law_deeds c_law_mixed
  have c_law_layers := ok_law_layers (P := l.prog) (w := w) (base := base) T a_law_layers
  have c_law_core := ok_law_core (P := l.prog) (w := w) (base := base) T a_law_core c_law_layers
  have c_law_start := ok_law_start (P := l.prog) (w := w) (base := base) T a_law_start c_law_taken c_law_pick c_law_any c_law_painted c_law_deeds c_law_core
  have c_law_differ := ok_law_differ (P := l.prog) (w := w) (base := base) T a_law_differ
  have c_law_least := ok_law_least (P := l.prog) (w := w) (base := base) T a_law_least c_law_differ c_law_layers
  have c_law_few := ok_law_few (P := l.prog) (w := w) (base := base) T a_law_few c_law_least
  exact ok_law (fun_mk (st := s_law) lk c k) T c_law_picture c_law_taken c_law_start c_law_pick c_law_mixed c_law_few c_law_alike c_law_core c_table c_along c_reached_all c_from_all c_free_ones c_groups c_same_core c_agree c_nearest_goal c_nearest_start
end LPW

open PySem PySem.W PyProof.Rows in
set_option maxRecDepth 100000 in
set_option maxHeartbeats 0 in
theorem PySem.Challenge.cw_linepainters_k46_whole_several_holds : PySem.Challenge.rw_linepainters_k46_whole_several.Holds := by
  w_on; o_law; k_head; (case hw => w_witness2)
  k_fill
  refine L2.walk_of (l := PySem.Challenge.rw_linepainters_k46_whole_several) (n := 63) (k := 7) (x := "_law_script") (CX := fun _ => L2.CX0) (sp := fun w => LPW.spLaw _) rfl (by decide) rfl ⟨rfl, by decide, by decide⟩ (fun w h Y => PySem.W.kIn_of Y) ?F (fun _ _ a ns hl _ hS => ⟨a, ns, rfl, hS, hl, fun _ => rfl⟩) (fun _ _ _ _ _ z => z)
  case F =>
    intro w mg fa h KX G hmg
    have T : LPW.Tx mg := by
      refine' ⟨PySem.W.mg_none_of KX G ?t_isinstance, PySem.W.mg_none_of KX G ?t_tuple, PySem.W.mg_none_of KX G ?t_str, PySem.W.mg_none_of KX G ?t_int, PySem.W.mg_none_of KX G ?t_bool, PySem.W.mg_none_of KX G ?t_list, PySem.W.mg_none_of KX G ?t_len, PySem.W.mg_none_of KX G ?t_all, PySem.W.mg_none_of KX G ?t_any, PySem.W.mg_none_of KX G ?t_enumerate, PySem.W.mg_none_of KX G ?t_range, PySem.W.mg_none_of KX G ?t_sum, PySem.W.mg_none_of KX G ?t_sorted, PySem.W.mg_none_of KX G ?t_min, PySem.W.mg_none_of KX G ?t_zip, PySem.W.mg_none_of KX G ?t_set, LPW.gl_BLACK KX G ?t_BLACK, LPW.gl_WHITE KX G ?t_WHITE, LPW.gl_MOST_SIDE KX G ?t_MOST_SIDE, LPW.gl_MOST_PICTURES KX G ?t_MOST_PICTURES⟩
      (case t_isinstance => k_is)
      (case t_tuple => k_is)
      (case t_str => k_is)
      (case t_int => k_is)
      (case t_bool => k_is)
      (case t_list => k_is)
      (case t_len => k_is)
      (case t_all => k_is)
      (case t_any => k_is)
      (case t_enumerate => k_is)
      (case t_range => k_is)
      (case t_sum => k_is)
      (case t_sorted => k_is)
      (case t_min => k_is)
      (case t_zip => k_is)
      (case t_set => k_is)
      (case t_BLACK => k_is)
      (case t_WHITE => k_is)
      (case t_MOST_SIDE => k_is)
      (case t_MOST_PICTURES => k_is)
    have A_is_int := by
      refine' LPW.at_is_int KX G ?a ?l ?c ?k
      (case a => k_is)
      (case l => k_is)
      (case c => k_is)
      (case k => k_is)
    have A_is_in := by
      refine' LPW.at_is_in KX G ?a ?l ?c ?k
      (case a => k_is)
      (case l => k_is)
      (case c => k_is)
      (case k => k_is)
    have A_need_number := by
      refine' LPW.at_need_number KX G ?a ?l ?c ?k
      (case a => k_is)
      (case l => k_is)
      (case c => k_is)
      (case k => k_is)
    have A_is_picture := by
      refine' LPW.at_is_picture KX G ?a ?l ?c ?k
      (case a => k_is)
      (case l => k_is)
      (case c => k_is)
      (case k => k_is)
    have A_need_picture := by
      refine' LPW.at_need_picture KX G ?a ?l ?c ?k
      (case a => k_is)
      (case l => k_is)
      (case c => k_is)
      (case k => k_is)
    have A_lines_of := by
      refine' LPW.at_lines_of KX G ?a ?l ?c ?k
      (case a => k_is)
      (case l => k_is)
      (case c => k_is)
      (case k => k_is)
    have A_differing := by
      refine' LPW.at_differing KX G ?a ?l ?c ?k
      (case a => k_is)
      (case l => k_is)
      (case c => k_is)
      (case k => k_is)
    have A_leads_to := by
      refine' LPW.at_leads_to KX G ?a ?l ?c ?k
      (case a => k_is)
      (case l => k_is)
      (case c => k_is)
      (case k => k_is)
    have A_layers_of := by
      refine' LPW.at_layers_of KX G ?a ?l ?c ?k
      (case a => k_is)
      (case l => k_is)
      (case c => k_is)
      (case k => k_is)
    have A_core_of := by
      refine' LPW.at_core_of KX G ?a ?l ?c ?k
      (case a => k_is)
      (case l => k_is)
      (case c => k_is)
      (case k => k_is)
    have A_is_free_of := by
      refine' LPW.at_is_free_of KX G ?a ?l ?c ?k
      (case a => k_is)
      (case l => k_is)
      (case c => k_is)
      (case k => k_is)
    have A_meets := by
      refine' LPW.at_meets KX G ?a ?l ?c ?k
      (case a => k_is)
      (case l => k_is)
      (case c => k_is)
      (case k => k_is)
    have A_trimmed := by
      refine' LPW.at_trimmed KX G ?a ?l ?c ?k
      (case a => k_is)
      (case l => k_is)
      (case c => k_is)
      (case k => k_is)
    have A_least_of := by
      refine' LPW.at_least_of KX G ?a ?l ?c ?k
      (case a => k_is)
      (case l => k_is)
      (case c => k_is)
      (case k => k_is)
    have A_few := by
      refine' LPW.at_few KX G ?a ?l ?c ?k
      (case a => k_is)
      (case l => k_is)
      (case c => k_is)
      (case k => k_is)
    have A_need_list := by
      refine' LPW.at_need_list KX G ?a ?l ?c ?k
      (case a => k_is)
      (case l => k_is)
      (case c => k_is)
      (case k => k_is)
    have A_need_like := by
      refine' LPW.at_need_like KX G ?a ?l ?c ?k
      (case a => k_is)
      (case l => k_is)
      (case c => k_is)
      (case k => k_is)
    have A_need_pictures := by
      refine' LPW.at_need_pictures KX G ?a ?l ?c ?k
      (case a => k_is)
      (case l => k_is)
      (case c => k_is)
      (case k => k_is)
    have A_table := by
      refine' LPW.at_table KX G ?a ?l ?c ?k
      (case a => k_is)
      (case l => k_is)
      (case c => k_is)
      (case k => k_is)
    have A_along := by
      refine' LPW.at_along KX G ?a ?l ?c ?k
      (case a => k_is)
      (case l => k_is)
      (case c => k_is)
      (case k => k_is)
    have A_reached_all := by
      refine' LPW.at_reached_all KX G ?a ?l ?c ?k
      (case a => k_is)
      (case l => k_is)
      (case c => k_is)
      (case k => k_is)
    have A_from_all := by
      refine' LPW.at_from_all KX G ?a ?l ?c ?k
      (case a => k_is)
      (case l => k_is)
      (case c => k_is)
      (case k => k_is)
    have A_free_ones := by
      refine' LPW.at_free_ones KX G ?a ?l ?c ?k
      (case a => k_is)
      (case l => k_is)
      (case c => k_is)
      (case k => k_is)
    have A_same_core := by
      refine' LPW.at_same_core KX G ?a ?l ?c ?k
      (case a => k_is)
      (case l => k_is)
      (case c => k_is)
      (case k => k_is)
    have A_groups := by
      refine' LPW.at_groups KX G ?a ?l ?c ?k
      (case a => k_is)
      (case l => k_is)
      (case c => k_is)
      (case k => k_is)
    have A_agree := by
      refine' LPW.at_agree KX G ?a ?l ?c ?k
      (case a => k_is)
      (case l => k_is)
      (case c => k_is)
      (case k => k_is)
    have A_nearest_goal := by
      refine' LPW.at_nearest_goal KX G ?a ?l ?c ?k
      (case a => k_is)
      (case l => k_is)
      (case c => k_is)
      (case k => k_is)
    have A_nearest_start := by
      refine' LPW.at_nearest_start KX G ?a ?l ?c ?k
      (case a => k_is)
      (case l => k_is)
      (case c => k_is)
      (case k => k_is)
    have A_law_taken := by
      refine' LPW.at_law_taken KX G ?a ?l ?c ?k
      (case a => k_is)
      (case l => k_is)
      (case c => k_is)
      (case k => k_is)
    have A_law_pick := by
      refine' LPW.at_law_pick KX G ?a ?l ?c ?k
      (case a => k_is)
      (case l => k_is)
      (case c => k_is)
      (case k => k_is)
    have A_law_alike := by
      refine' LPW.at_law_alike KX G ?a ?l ?c ?k
      (case a => k_is)
      (case l => k_is)
      (case c => k_is)
      (case k => k_is)
    have A_law_mixed := by
      refine' LPW.at_law_mixed KX G ?a ?l ?c ?k
      (case a => k_is)
      (case l => k_is)
      (case c => k_is)
      (case k => k_is)
    have A_law_any := by
      refine' LPW.at_law_any KX G ?a ?l ?c ?k
      (case a => k_is)
      (case l => k_is)
      (case c => k_is)
      (case k => k_is)
    have A_law_paint := by
      refine' LPW.at_law_paint KX G ?a ?l ?c ?k
      (case a => k_is)
      (case l => k_is)
      (case c => k_is)
      (case k => k_is)
    have A_law_painted := by
      refine' LPW.at_law_painted KX G ?a ?l ?c ?k
      (case a => k_is)
      (case l => k_is)
      (case c => k_is)
      (case k => k_is)
    have A_law_deeds := by
      refine' LPW.at_law_deeds KX G ?a ?l ?c ?k
      (case a => k_is)
      (case l => k_is)
      (case c => k_is)
      (case k => k_is)
    have A_law_picture := by
      refine' LPW.at_law_picture KX G ?a ?l ?c ?k
      (case a => k_is)
      (case l => k_is)
      (case c => k_is)
      (case k => k_is)
    have A_law_layers := by
      refine' LPW.at_law_layers KX G ?a ?l ?c ?k
      (case a => k_is)
      (case l => k_is)
      (case c => k_is)
      (case k => k_is)
    have A_law_core := by
      refine' LPW.at_law_core KX G ?a ?l ?c ?k
      (case a => k_is)
      (case l => k_is)
      (case c => k_is)
      (case k => k_is)
    have A_law_start := by
      refine' LPW.at_law_start KX G ?a ?l ?c ?k
      (case a => k_is)
      (case l => k_is)
      (case c => k_is)
      (case k => k_is)
    have A_law_differ := by
      refine' LPW.at_law_differ KX G ?a ?l ?c ?k
      (case a => k_is)
      (case l => k_is)
      (case c => k_is)
      (case k => k_is)
    have A_law_least := by
      refine' LPW.at_law_least KX G ?a ?l ?c ?k
      (case a => k_is)
      (case l => k_is)
      (case c => k_is)
      (case k => k_is)
    have A_law_few := by
      refine' LPW.at_law_few KX G ?a ?l ?c ?k
      (case a => k_is)
      (case l => k_is)
      (case c => k_is)
      (case k => k_is)
    refine' LPW.law_at KX G hmg T ?a ?l ?c ?k A_is_int A_is_in A_need_number A_is_picture A_need_picture A_lines_of A_differing A_leads_to A_layers_of A_core_of A_is_free_of A_meets A_trimmed A_least_of A_few A_need_list A_need_like A_need_pictures A_table A_along A_reached_all A_from_all A_free_ones A_same_core A_groups A_agree A_nearest_goal A_nearest_start A_law_taken A_law_pick A_law_alike A_law_mixed A_law_any A_law_paint A_law_painted A_law_deeds A_law_picture A_law_layers A_law_core A_law_start A_law_differ A_law_least A_law_few
    (case a => k_is)
    (case l => k_is)
    (case c => k_is)
    (case k => k_is)
