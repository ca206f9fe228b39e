import PyProof.Rows.All
import Wide.All
import OpenK.AllK
import Wide.FinOn
import HandS.Base
import HandS.Call
import HandS.List
import HandS.Dict
import HandS.Iter
import HandS.Comp
import KE.KDictKeyed
import KE.GoesMore
import HandS.ForMost
import HandS.Conv
import HandS.Walk
import HandS.Deep
import HandS.TupMul
import KE.KDictDisplayH
import KE.SortData
import HandS.TupAny
import HandS.Star
import HandS.IsInst
import PySem.Challenge.RW_counterlines_k75_whole_single_places
import HandS.Style
set_option Elab.async false
set_option linter.all false
set_option maxRecDepth 100000
set_option maxHeartbeats 4000000
/-! The mirror: what the defs compute, in plain Lean. -/
namespace CL
/-- a state: a line for each counter -/
abbrev Sta := List (List Int)
/-- the counters at which p stands -/
def hitsFrom (p : Int) : Nat → Sta → List Nat
  | _, [] => []
  | i, l :: r => if l.contains p then i :: hitsFrom p (i + 1) r else hitsFrom p (i + 1) r
def ctr (s : Sta) (p : Int) : Nat := (hitsFrom p 0 s).headD 0
def stands (s : Sta) (p : Int) : Bool := !(hitsFrom p 0 s).isEmpty
def less (p : Int) (l : List Int) : List Int := l.filter fun q => !(q == p)
def callIn (s : Sta) (p : Int) : Sta := (s.map (less p)).set ((ctr s p + 1) % s.length) ((s.map (less p)).getD ((ctr s p + 1) % s.length) [] ++ [p])
def fits (s : Sta) (limit : Nat) : Bool := s.all fun l => decide (l.length ≤ limit)
def small (s : Sta) : Bool := decide (s.length ≤ 50) && s.all fun l => decide (l.length ≤ 50)

theorem hits_len (p : Int) : ∀ (s : Sta) (k : Nat), (hitsFrom p k s).length ≤ s.length
  | [], _ => Nat.le_refl _
  | l :: r, k => by
    unfold hitsFrom
    have ih := hits_len p r (k + 1)
    by_cases h : l.contains p = true
    · rw [if_pos h, List.length_cons, List.length_cons]; omega
    · rw [if_neg h, List.length_cons]; omega
theorem hits_app (p : Int) (l : List Int) : ∀ (s : Sta) (k : Nat), hitsFrom p k (s ++ [l]) = hitsFrom p k s ++ if l.contains p then [k + s.length] else []
  | [], k => by
    show hitsFrom p k [l] = _
    unfold hitsFrom
    unfold hitsFrom
    simp
  | x :: r, k => by
    show hitsFrom p k (x :: (r ++ [l])) = hitsFrom p k (x :: r) ++ _
    have ih := hits_app p l r (k + 1)
    have e : k + 1 + r.length = k + (x :: r).length := by rw [List.length_cons]; omega
    rw [e] at ih
    rw [hitsFrom, hitsFrom]
    by_cases h : x.contains p = true
    · rw [if_pos h, if_pos h, ih, List.cons_append]
    · rw [if_neg h, if_neg h, ih]
theorem hits_take {p : Int} {s : Sta} {i : Nat} {l : List Int} (h : s[i]? = some l) : hitsFrom p 0 (s.take (i + 1)) = hitsFrom p 0 (s.take i) ++ if l.contains p then [i] else [] := by
  have hlt := (List.getElem?_eq_some_iff.mp h).1
  have e : s.take (i + 1) = s.take i ++ [l] := by rw [List.take_add_one, h]; rfl
  rw [e, hits_app, List.length_take, Nat.min_eq_left (Nat.le_of_lt hlt), Nat.zero_add]
theorem hits_lt (p : Int) : ∀ (s : Sta) (k j : Nat), j ∈ hitsFrom p k s → j < k + s.length
  | [], _, _, h => by cases h
  | l :: r, k, j, h => by
    unfold hitsFrom at h
    rw [List.length_cons]
    by_cases c : l.contains p = true
    · rw [if_pos c] at h
      rcases List.mem_cons.mp h with e | h
      · omega
      · have := hits_lt p r (k + 1) j h; omega
    · rw [if_neg c] at h
      have := hits_lt p r (k + 1) j h; omega
theorem stands_ctr {s : Sta} {p : Int} (h : stands s p = true) : ∃ r, hitsFrom p 0 s = ctr s p :: r := by
  unfold stands at h
  unfold ctr
  cases e : hitsFrom p 0 s with
  | nil => rw [e] at h; cases h
  | cons x r => exact ⟨r, rfl⟩
theorem stands_len {s : Sta} {p : Int} (h : stands s p = true) : 0 < s.length := by
  obtain ⟨r, e⟩ := stands_ctr h
  have := hits_lt p s 0 (ctr s p) (by rw [e]; exact List.mem_cons_self)
  omega
theorem small_of {s : Sta} (h : small s = true) : s.length ≤ 50 ∧ ∀ l ∈ s, l.length ≤ 50 := by
  unfold small at h
  rw [Bool.and_eq_true, decide_eq_true_eq, List.all_eq_true] at h
  exact ⟨h.1, fun l hl => of_decide_eq_true (h.2 l hl)⟩

/-! the states that can be reached: the dict as a table -/
abbrev Tab := List (Sta × Int)
def lookT (t : Tab) (s : Sta) : Option Int := (t.find? fun kv => decide (kv.1 = s)).map (·.2)
/-- one person called in one state -/
def turnP (limit : Nat) (many : Int) (here : Sta) (a : Tab × List Sta) (p : Nat) : Tab × List Sta :=
  if (lookT a.1 (callIn here (p : Int))).isNone && fits (callIn here (p : Int)) limit then (a.1 ++ [(callIn here (p : Int), many)], a.2 ++ [callIn here (p : Int)]) else a
def turnS (n limit : Nat) (many : Int) (a : Tab × List Sta) (here : Sta) : Tab × List Sta := (List.range n).foldl (turnP limit many here) a
def guard (n : Nat) (last : List Sta) : Bool := last.all fun s => small s && (List.range n).all fun (p : Nat) => stands s (p : Int)
/-- the while loop; the guards keep what the calls ask -/
def reach (n limit : Nat) : Nat → Tab → List Sta → Int → Option Tab
  | 0, _, _, _ => none
  | f + 1, t, last, many =>
    match last with
    | [] => some t
    | x :: r =>
      if guard n (x :: r) && decide (((x :: r).foldl (turnS n limit (many + 1)) (t, [])).1.length ≤ 20000) then
        reach n limit f ((x :: r).foldl (turnS n limit (many + 1)) (t, [])).1 ((x :: r).foldl (turnS n limit (many + 1)) (t, [])).2 (many + 1)
      else none
theorem turnP_len (limit : Nat) (many : Int) (here : Sta) (a : Tab × List Sta) (p : Nat) : a.1.length ≤ (turnP limit many here a p).1.length ∧ (a.2.length ≤ a.1.length → (turnP limit many here a p).2.length ≤ (turnP limit many here a p).1.length) := by
  unfold turnP
  split
  · simp only [List.length_append, List.length_cons, List.length_nil]; omega
  · exact ⟨Nat.le_refl _, fun h => h⟩
theorem foldP_len (limit : Nat) (many : Int) (here : Sta) : ∀ (l : List Nat) (a : Tab × List Sta), a.1.length ≤ (l.foldl (turnP limit many here) a).1.length ∧ (a.2.length ≤ a.1.length → (l.foldl (turnP limit many here) a).2.length ≤ (l.foldl (turnP limit many here) a).1.length)
  | [], a => ⟨Nat.le_refl _, fun h => h⟩
  | p :: l, a => by
    have h1 := turnP_len limit many here a p
    have h2 := foldP_len limit many here l (turnP limit many here a p)
    exact ⟨Nat.le_trans h1.1 h2.1, fun h => h2.2 (h1.2 h)⟩
theorem foldS_len (n limit : Nat) (many : Int) : ∀ (l : List Sta) (a : Tab × List Sta), a.1.length ≤ (l.foldl (turnS n limit many) a).1.length ∧ (a.2.length ≤ a.1.length → (l.foldl (turnS n limit many) a).2.length ≤ (l.foldl (turnS n limit many) a).1.length)
  | [], a => ⟨Nat.le_refl _, fun h => h⟩
  | s :: l, a => by
    have h1 := foldP_len limit many s (List.range n) a
    have h2 := foldS_len n limit many l (turnS n limit many a s)
    exact ⟨Nat.le_trans h1.1 h2.1, fun h => h2.2 (h1.2 h)⟩
theorem foldl_take {α β : Type} (f : β → α → β) (a : β) {l : List α} {i : Nat} {x : α} (h : l[i]? = some x) : (l.take (i + 1)).foldl f a = f ((l.take i).foldl f a) x := by
  have e : l.take (i + 1) = l.take i ++ [x] := by rw [List.take_add_one, h]; rfl
  rw [e, List.foldl_append]
  rfl
theorem foldl_range {β : Type} (f : β → Nat → β) (a : β) (i : Nat) : (List.range (i + 1)).foldl f a = f ((List.range i).foldl f a) i := by
  rw [List.range_succ, List.foldl_append]
  rfl
/-- no part of a level has more than the level -/
theorem part_len (n limit : Nat) (many : Int) {l : List Sta} {i : Nat} {s : Sta} (h : l[i]? = some s) (a : Tab × List Sta) {j : Nat} (hj : j < n) :
    (turnP limit many s ((List.range j).foldl (turnP limit many s) ((l.take i).foldl (turnS n limit many) a)) j).1.length ≤ (l.foldl (turnS n limit many) a).1.length := by
  have e1 : l.foldl (turnS n limit many) a = (l.drop (i + 1)).foldl (turnS n limit many) ((l.take (i + 1)).foldl (turnS n limit many) a) := by
    rw [← List.foldl_append, List.take_append_drop]
  have e2 := foldl_take (turnS n limit many) a h
  rw [e1, e2]
  refine Nat.le_trans ?_ (foldS_len n limit many _ _).1
  rw [← foldl_range (turnP limit many s) _ j]
  have e3 : List.range n = List.range (j + 1) ++ (List.range (n - (j + 1))).map (fun x => (j + 1) + x) := by
    rw [← List.range_add]
    congr 1
    omega
  unfold turnS
  rw [e3, List.foldl_append]
  exact (foldP_len limit many s _ _).1
theorem callIn_len (s : Sta) (p : Int) : (callIn s p).length = s.length := by
  unfold callIn
  rw [List.length_set, List.length_map]

/-! all states, as the dict grows -/
def putS (d : List Sta) (s : Sta) : List Sta := if d.contains s then d else d ++ [s]
def insAt (l : List Int) (i : Nat) (p : Int) : List Int := l.take i ++ p :: l.drop i
def laid (p : Int) (s : Sta) (k i : Nat) : Sta := s.take k ++ insAt (s.getD k []) i p :: s.drop (k + 1)
def layI (p : Int) (s : Sta) (k : Nat) (d : List Sta) (i : Nat) : List Sta := putS d (laid p s k i)
def layC (p : Int) (s : Sta) (d : List Sta) (k : Nat) : List Sta := (List.range ((s.getD k []).length + 1)).foldl (layI p s k) d
def layS (p : Int) (d : List Sta) (s : Sta) : List Sta := (List.range s.length).foldl (layC p s) d
def layP (f : List Sta) (p : Nat) : List Sta := f.foldl (layS (p : Int)) []
def lay (n c : Nat) : List Sta := (List.range n).foldl layP [List.replicate c []]
def layOk (n c : Nat) : Bool := (List.range n).all fun k => (lay k c).all small && decide ((lay (k + 1) c).length ≤ 20000)
theorem lay_succ (n c : Nat) : lay (n + 1) c = layP (lay n c) n := foldl_range layP _ n
theorem putS_len (d : List Sta) (s : Sta) : d.length ≤ (putS d s).length := by
  unfold putS
  split
  · exact Nat.le_refl _
  · rw [List.length_append]; omega
theorem foldl_mono {β : Type} (f : List Sta → β → List Sta) (hf : ∀ d x, d.length ≤ (f d x).length) : ∀ (l : List β) (d : List Sta), d.length ≤ (l.foldl f d).length
  | [], _ => Nat.le_refl _
  | x :: l, d => Nat.le_trans (hf d x) (foldl_mono f hf l (f d x))
theorem part_le {β : Type} (f : List Sta → β → List Sta) (hf : ∀ d x, d.length ≤ (f d x).length) {l : List β} {i : Nat} {x : β} (h : l[i]? = some x) (d : List Sta) : (f ((l.take i).foldl f d) x).length ≤ (l.foldl f d).length := by
  have e : l.foldl f d = (l.drop (i + 1)).foldl f ((l.take (i + 1)).foldl f d) := by rw [← List.foldl_append, List.take_append_drop]
  rw [e, foldl_take f d h]
  exact foldl_mono f hf _ _
theorem part_range (f : List Sta → Nat → List Sta) (hf : ∀ d x, d.length ≤ (f d x).length) {m j : Nat} (h : j < m) (d : List Sta) : (f ((List.range j).foldl f d) j).length ≤ ((List.range m).foldl f d).length := by
  have e3 : List.range m = List.range (j + 1) ++ (List.range (m - (j + 1))).map (fun x => (j + 1) + x) := by
    rw [← List.range_add]
    congr 1
    omega
  rw [e3, List.foldl_append, ← foldl_range f d j]
  exact foldl_mono f hf _ _
theorem layI_mono (p : Int) (s : Sta) (k : Nat) (d : List Sta) (i : Nat) : d.length ≤ (layI p s k d i).length := putS_len _ _
theorem layC_mono (p : Int) (s : Sta) (d : List Sta) (k : Nat) : d.length ≤ (layC p s d k).length := foldl_mono _ (layI_mono p s k) _ _
theorem layS_mono (p : Int) (d : List Sta) (s : Sta) : d.length ≤ (layS p d s).length := foldl_mono _ (layC_mono p s) _ _
/-- no part of a level has more than the level -/
theorem lay_part {f : List Sta} {p : Nat} {x : Nat} {s : Sta} (h : f[x]? = some s) {k i : Nat} (hk : k < s.length) (hi : i < (s.getD k []).length + 1) :
    (layI (p : Int) s k ((List.range i).foldl (layI (p : Int) s k) ((List.range k).foldl (layC (p : Int) s) ((f.take x).foldl (layS (p : Int)) []))) i).length ≤ (layP f p).length :=
  Nat.le_trans (part_range _ (layI_mono (p : Int) s k) hi _) (Nat.le_trans (part_range _ (layC_mono (p : Int) s) hk _) (part_le _ (layS_mono (p : Int)) h []))
def numSt (n c : Nat) : Int := (List.range n).foldl (fun (a : Int) (i : Nat) => a * ((c : Int) + (i : Int))) 1

/-! what the draws can give -/
def picks : Nat → List Int → List (List Int)
  | 0, _ => [[]]
  | k + 1, l => (List.range l.length).flatMap fun i => (picks k (l.eraseIdx i)).map fun r => l.getD i 0 :: r
def drops : Nat → List Int → List (List Int)
  | 0, l => [l]
  | k + 1, l => (List.range l.length).flatMap fun i => drops k (l.eraseIdx i)
def upto (n : Nat) : List Int := (List.range n).map fun (i : Nat) => (i : Int)
theorem ints_len (n : Nat) : (upto n).length = n := by unfold upto; rw [List.length_map, List.length_range]
theorem pick_step {l : List Int} {i : Nat} {y : Int} {k : Nat} (h : l[i]? = some y) {r : List Int} (hr : r ∈ picks k (l.eraseIdx i)) : y :: r ∈ picks (k + 1) l := by
  have hlt := (List.getElem?_eq_some_iff.mp h).1
  refine List.mem_flatMap.mpr ⟨i, List.mem_range.mpr hlt, List.mem_map.mpr ⟨r, hr, ?_⟩⟩
  rw [List.getD_eq_getElem?_getD, h]
  rfl
theorem drop_step {l : List Int} {i : Nat} {k : Nat} (h : i < l.length) {r : List Int} (hr : r ∈ drops k (l.eraseIdx i)) : r ∈ drops (k + 1) l :=
  List.mem_flatMap.mpr ⟨i, List.mem_range.mpr h, hr⟩
theorem picks_len : ∀ (k : Nat) (l r : List Int), r ∈ picks k l → r.length = k
  | 0, _, r, h => by
    rw [List.mem_singleton.mp h]
    rfl
  | k + 1, l, r, h => by
    obtain ⟨i, _, h⟩ := List.mem_flatMap.mp h
    obtain ⟨r', h1, rfl⟩ := List.mem_map.mp h
    rw [List.length_cons, picks_len k _ _ h1]
def idx : List Int → Int → Nat
  | [], _ => 0
  | x :: r, y => if x == y then 0 else idx r y + 1
theorem idx_mem : ∀ {l : List Int} {y : Int}, l.contains y = true → ∃ z, l[idx l y]? = some z ∧ (z == y) = true
  | [], _, h => by cases h
  | x :: r, y, h => by
    unfold idx
    by_cases c : (x == y) = true
    · rw [if_pos c]
      exact ⟨x, rfl, c⟩
    · rw [if_neg c]
      rw [List.contains_cons, Bool.or_eq_true] at h
      rcases h with h | h
      · exact absurd (by rw [Bool.beq_comm] at h; exact h) c
      · obtain ⟨z, h1, h2⟩ := idx_mem h
        exact ⟨z, by rw [List.getElem?_cons_succ]; exact h1, h2⟩
theorem idx_first : ∀ {l : List Int} {y : Int} {m : Nat} {z : Int}, m < idx l y → l[m]? = some z → (z == y) = false
  | [], _, _, _, h, _ => by unfold idx at h; omega
  | x :: r, y, m, z, h, e => by
    unfold idx at h
    by_cases c : (x == y) = true
    · rw [if_pos c] at h; omega
    · rw [if_neg c] at h
      cases m with
      | zero =>
        have e' : x = z := Option.some.inj e
        subst e'
        simpa using c
      | succ m =>
        rw [List.getElem?_cons_succ] at e
        exact idx_first (Nat.lt_of_succ_lt_succ h) e
/-! the law's own reckoning -/
def place (order spots : List Int) (c : Nat) : Sta := (upto c).map fun k => if spots.contains k then [order.getD (idx spots k) 0] else []
def choices (p c : Nat) : Int := (List.range p).foldl (fun (a : Int) (i : Nat) => (a * ((c : Int) - (i : Int))).fdiv ((i : Int) + 1)) 1
def due (p c : Nat) : Int := if p < c then (p : Int) * choices p c else 1
def rot (order : List Int) (o : Sta) : List Int := o.flatten.drop (idx o.flatten (order.getD 0 0)) ++ o.flatten.take (idx o.flatten (order.getD 0 0))
def valid (n c : Nat) (s : Sta) : Bool :=
  decide (s.length = c) && (s.all fun l => decide (l.length ≤ n)) && (s.flatten.all fun p => decide (0 ≤ p) && decide (p ≤ (n : Int) - 1)) && decide s.flatten.Nodup && decide (n ≤ s.flatten.length) && decide (s.flatten.length ≤ 100)
def check (p c : Nat) (L : List Sta) (order spots : List Int) : Bool :=
  valid p c (place order spots c) && fits (place order spots c) 1 &&
  match reach p 1 20 [(place order spots c, 0)] [place order spots c] 0 with
  | none => false
  | some t => decide ((t.length : Int) = due p c) && decide (((L.filter fun o => (lookT t o).isSome).length : Int) = due p c) &&
      (L.filter fun o => (lookT t o).isSome).all fun o => o.flatten.contains (order.getD 0 0) && decide (rot order o = order)
def okAll (p c : Nat) (L : List Sta) : Bool := (L.all fun s => !s.isEmpty && valid p c s) && decide (L.length ≤ 20000) && layOk p c && decide (numSt p c ≤ 20000)
def checkAll (p c : Nat) : Bool := okAll p c (lay p c) && (picks p (upto p)).all fun o => (drops (c - p) (upto c)).all fun sp => check p c (lay p c) o sp
end CL

namespace CL
open PySem PySem.Spec PyProof.Rows L2

/-! states as keys -/

def nk (s : Sta) : NestedKey := .tup (s.map fun l => NestedKey.tup (l.map NestedKey.num))
theorem num_inj : ∀ {a b : List Int}, a.map NestedKey.num = b.map NestedKey.num → a = b
  | [], [], _ => rfl
  | [], _ :: _, e => by simp at e
  | _ :: _, [], e => by simp at e
  | x :: xs, y :: ys, e => by
    rw [List.map_cons, List.map_cons] at e
    injection e with e1 e2
    injection e1 with e1
    rw [e1, num_inj e2]
theorem line_inj : ∀ {s t : Sta}, (s.map fun l => NestedKey.tup (l.map NestedKey.num)) = (t.map fun l => NestedKey.tup (l.map NestedKey.num)) → s = t
  | [], [], _ => rfl
  | [], _ :: _, e => by simp at e
  | _ :: _, [], e => by simp at e
  | x :: xs, y :: ys, e => by
    rw [List.map_cons, List.map_cons] at e
    injection e with e1 e2
    injection e1 with e1
    rw [num_inj e1, line_inj e2]
theorem nk_inj {s t : Sta} (e : nk s = nk t) : s = t := by
  unfold nk at e
  injection e with e
  exact line_inj e
theorem depth_nums : ∀ l : List Int, NestedKey.depthAll (l.map NestedKey.num) = 0
  | [] => rfl
  | x :: l => by rw [List.map_cons, NestedKey.depthAll, depth_nums l]; rfl
theorem depth_lines : ∀ s : Sta, NestedKey.depthAll (s.map fun l => NestedKey.tup (l.map NestedKey.num)) ≤ 1
  | [] => Nat.zero_le _
  | l :: s => by
    rw [List.map_cons, NestedKey.depthAll, NestedKey.depth, depth_nums l]
    have := depth_lines s
    omega
theorem depth_nk (s : Sta) : (nk s).depth ≤ 8 := by
  have := depth_lines s
  unfold nk
  rw [NestedKey.depth]
  omega

/-- a tuple of ints -/
abbrev LineT (H : Hp) (b : Addr) (l : List Int) : Prop := H b = some (.tup (l.map V.int))
/-- a state at a: a tuple of tuples of ints -/
def StT (H : Hp) (a : Addr) (s : Sta) : Prop := ∃ as : List Addr, H a = some (.tup (as.map V.ref)) ∧ Paired (LineT H) as s
theorem StT.keep {H H' : Hp} (k : ∀ b xs, H b = some (.tup xs) → H' b = some (.tup xs)) {a : Addr} {s : Sta} (x : StT H a s) : StT H' a s := by
  obtain ⟨as, h1, h2⟩ := x
  exact ⟨as, k _ _ h1, Paired.mapP h2 fun b l q => k _ _ q⟩

section
variable {P : Program} {w : World} {H : Hp} {h : Heap}
theorem all_nums {h : Heap} : ∀ {l : List Int} {us : List Value}, Vals (l.map V.int) us → NestedAll h (l.map NestedKey.num) us
  | [], _, r => by rw [List.map_nil] at r; cases r; exact .nil
  | x :: l, _, r => by
    rw [List.map_cons] at r
    cases r with
    | cons h t =>
      obtain ⟨u, e⟩ := (show ∃ t, _ = Value.int x t from h)
      subst e
      exact .cons (.int x u) (all_nums t)
theorem line_is (ok : HOk P w H h) {b : Addr} {l : List Int} (q : LineT H b l) : NestedIs h (.tup (l.map NestedKey.num)) (.ref b) := by
  obtain ⟨_, its, r, o, h1, h2, n, h3⟩ := (show ObjOk P w H h b (.tup (l.map V.int)) from ok b _ q)
  exact .tup h1 h2 h3 (by simpa using all_nums r)
theorem all_lines (ok : HOk P w H h) : ∀ {as : List Addr} {s : Sta} {us : List Value}, Paired (LineT H) as s → Vals (as.map V.ref) us → NestedAll h (s.map fun l => NestedKey.tup (l.map NestedKey.num)) us
  | [], _, _, p, r => by cases p; rw [List.map_nil] at r; cases r; exact .nil
  | a :: as, _, _, p, r => by
    cases p with
    | cons p1 p2 =>
      rw [List.map_cons] at r
      cases r with
      | cons h1 t =>
        cases h1
        exact .cons (line_is ok p1) (all_lines ok p2 t)
theorem key_is (ok : HOk P w H h) {a : Addr} {s : Sta} (x : StT H a s) : (nestedKind P w).is h (nk s) a := by
  obtain ⟨as, q, p⟩ := x
  obtain ⟨_, its, r, o, h1, h2, n, h3⟩ := (show ObjOk P w H h a (.tup (as.map V.ref)) from ok a _ q)
  exact ⟨.tup h1 h2 h3 (by simpa using all_lines ok p r), depth_nk s⟩
end

/-! a dict keyed by states -/
def phiN (P : Program) (w : World) (d : Addr) (xs : List (NestedKey × Addr × Value)) : Heap → Prop := fun h =>
  ∃ o es ep, h.get? d = some o ∧ o.ExactDict ∧ o.data = .dict es ep ∧ es.toList = xs.map (entryOfKey (nestedKind P w)) ∧ (xs.map (·.1)).Nodup
abbrev DRel (H : Hp) : List (Sta × V) → List (NestedKey × Addr × Value) → Prop := Paired fun p q => q.1 = nk p.1 ∧ StT H q.2.1 p.1 ∧ RelV p.2 q.2.2
/-- what a dict's description tells: the pairs kvs -/
def DAt (P : Program) (w : World) (H : Hp) (φ : Heap → Prop) (d : Addr) (kvs : List (Sta × V)) : Prop :=
  (d == sysModules) = false ∧ kvs.length ≤ sizeLine ∧ ∃ xs, φ = phiN P w d xs ∧ DRel H kvs xs
theorem DAt.keep {P : Program} {w : World} {H H' : Hp} {φ : Heap → Prop} {d : Addr} {kvs : List (Sta × V)} (k : ∀ b xs, H b = some (.tup xs) → H' b = some (.tup xs)) (x : DAt P w H φ d kvs) : DAt P w H' φ d kvs := by
  obtain ⟨h1, h2, xs, h3, h4⟩ := x
  exact ⟨h1, h2, xs, h3, Paired.mapP h4 fun p q z => ⟨z.1, z.2.1.keep k, z.2.2⟩⟩

section
variable {H : Hp}
theorem DRel.val {kvs : List (Sta × V)} {xs : List (NestedKey × Addr × Value)} (r : DRel H kvs xs) (k : Sta) : RelO (valV kvs k) ((atKey xs (nk k)).map (·.2)) := by
  induction r with
  | nil => exact True.intro
  | @cons p q ps qs h t ih =>
    obtain ⟨h1, _, h2⟩ := h
    by_cases e : p.1 = k
    · have e' : q.1 = nk k := by rw [h1, e]
      have b : atKey (q :: qs) (nk k) = some q.2 := by simp [atKey, List.find?_cons, e']
      rw [valV_pos e, b]; exact h2
    · have e' : ¬ q.1 = nk k := fun z => e (nk_inj (h1.symm.trans z))
      have b : atKey (q :: qs) (nk k) = atKey qs (nk k) := by simp [atKey, List.find?_cons, e']
      rw [valV_neg e, b]; exact ih
theorem DRel.repl {kvs : List (Sta × V)} {xs : List (NestedKey × Addr × Value)} (r : DRel H kvs xs) (k : Sta) {y : V} {u : Value} (ry : RelV y u) :
    DRel H (kvs.map fun kv => if kv.1 = k then (kv.1, y) else kv) (xs.map (putAt (nk k) u)) := by
  induction r with
  | nil => exact .nil
  | @cons p q ps qs h t ih =>
    rw [List.map_cons, List.map_cons]
    refine .cons ?_ ih
    obtain ⟨h1, h2, h3⟩ := h
    unfold putAt
    by_cases e : p.1 = k
    · rw [if_pos e, if_pos (show q.1 = nk k by rw [h1, e])]; exact ⟨h1, h2, ry⟩
    · rw [if_neg e, if_neg (show ¬ q.1 = nk k from fun z => e (nk_inj (h1.symm.trans z)))]; exact ⟨h1, h2, h3⟩
theorem DRel.put {kvs : List (Sta × V)} {xs : List (NestedKey × Addr × Value)} (r : DRel H kvs xs) (k : Sta) {b : Addr} {y : V} {u : Value} (hb : StT H b k) (ry : RelV y u) :
    DRel H (putK kvs k y) (storedH xs (nk k) b u) := by
  have e : (kvs.any fun kv => decide (kv.1 = k)) = (atKey xs (nk k)).isSome := by
    rw [valV_any, (r.val k).isSome_eq, Option.isSome_map]
  unfold putK storedH
  rw [e]
  by_cases q : (atKey xs (nk k)).isSome = true
  · rw [if_pos q, if_pos q]; exact r.repl k ry
  · rw [if_neg q, if_neg q]; exact Paired.snoc r ⟨rfl, hb, ry⟩
end

section
variable {P : Program} {w : World} {H : Hp} {h : Heap} {d : Addr} {φ : Heap → Prop} {kvs : List (Sta × V)}
theorem phi_of (ok : HOk P w H h) (e : Rd H d (.ext φ)) : φ h := by
  have x : ObjOk P w H h d (.ext φ) := e.ok ok
  exact x.1
/-- a described dict, in the heap -/
theorem DAt.dict (ok : HOk P w H h) (e : Rd H d (.ext φ)) (x : DAt P w H φ d kvs) : (d == sysModules) = false ∧ kvs.length ≤ sizeLine ∧ ∃ xs, DRel H kvs xs ∧ h.DictOfH (nestedKind P w) d xs := by
  obtain ⟨h1, h2, xs, h3, h4⟩ := x
  subst h3
  obtain ⟨o, es, ep, e1, e2, e3, e4, e5⟩ := phi_of ok e
  refine ⟨h1, h2, xs, h4, o, es, ep, e1, e2, e3, e4, ?_, e5⟩
  have all : ∀ {l : List (Sta × V)} {m : List (NestedKey × Addr × Value)}, DRel H l m → ∀ x ∈ m, (nestedKind P w).is h x.1 x.2.1 := by
    intro l m q
    induction q with
    | nil => intro x hx; exact nomatch hx
    | @cons p q ps qs hq t ih =>
      intro x hx
      rcases List.mem_cons.mp hx with e | hx
      · subst e
        rw [hq.1]
        exact key_is ok hq.2.1
      · exact ih x hx
  exact all h4
theorem phi_ok {h' : Heap} {xs : List (NestedKey × Addr × Value)} {H' : Hp} (dd : h'.DictOfH (nestedKind P w) d xs) : ObjOk P w H' h' d (.ext (phiN P w d xs)) := by
  obtain ⟨o, es, ep, e1, e2, e3, e4, _, e5⟩ := dd
  refine ⟨⟨o, es, ep, e1, e2, e3, e4, e5⟩, ⟨o, e1⟩, fun h1 h2 p k => ?_⟩
  obtain ⟨o, es, ep, e1, e2, e3, e4, e5⟩ := p
  exact ⟨o, es, ep, k _ e1, e2, e3, e4, e5⟩
end

section
variable {X : Cx} {pins : List (Addr × Obj)} {σ : L2.St} {H : Hp} {s : Shared} {d b : Addr} {φ : Heap → Prop} {kvs : List (Sta × V)} {k : Sta} {v : V} {r : Value} {A : Around} {E : Value → Shared → Prop}
theorem nroom {A : Around} (hu : A.units + 10 < cLine) : (nestedKind X.prog X.w).room A.in1 := by
  show A.units + 1 + 8 < cLine
  omega
theorem dn_in {Q : Value → Shared → Prop} (hu : A.units + 10 < cLine) (I : Inv X pins σ H s) (e : Rd H d (.ext φ)) (x : DAt X.prog X.w H φ d kvs) (hb : StT H b k) (h : ∀ s', Inv X pins σ H s' → Q (.bool (valV kvs k).isSome) s') :
    wpAny (model X.prog X.w) A (compareOp .In (.ref b) (.ref d)) Q E s := by
  obtain ⟨hd, hz, xs, rel, dd⟩ := x.dict I.hok e
  refine wpAny_in_heap (nroom (X := X) hu) (key_is I.hok hb) hd dd ?_
  have q := (rel.val k).isSome_eq
  rw [Option.isSome_map] at q
  rw [← q]
  exact h _ (I.tok _)
theorem dn_notIn {Q : Value → Shared → Prop} (hu : A.units + 10 < cLine) (I : Inv X pins σ H s) (e : Rd H d (.ext φ)) (x : DAt X.prog X.w H φ d kvs) (hb : StT H b k) (h : ∀ s', Inv X pins σ H s' → Q (.bool (!(valV kvs k).isSome)) s') :
    wpAny (model X.prog X.w) A (compareOp .NotIn (.ref b) (.ref d)) Q E s := by
  obtain ⟨hd, hz, xs, rel, dd⟩ := x.dict I.hok e
  refine wpAny_notIn_heap (nroom (X := X) hu) (key_is I.hok hb) hd dd ?_
  have q := (rel.val k).isSome_eq
  rw [Option.isSome_map] at q
  rw [← q]
  exact h _ (I.tok _)
/-- d[k] = v -/
theorem dn_setItem {Q : Unit → Shared → Prop} (hu : A.units + 10 < cLine) (I : Inv X pins σ H s) (e : H d = some (.ext φ)) (x : DAt X.prog X.w H φ d kvs) (hb : StT H b k) (rv : RelV v r) (hz1 : kvs.length < sizeLine)
    (h : ∀ s' φ', DAt X.prog X.w (upd H d (.ext φ')) φ' d (putK kvs k v) → Inv X pins σ (upd H d (.ext φ')) s' → Q () s') : wpAny (model X.prog X.w) A (setItem (.ref d) (.ref b) r) Q E s := by
  obtain ⟨hd, hz, xs, rel, dd⟩ := x.dict I.hok (.inl e)
  have hz2 : xs.length ≤ sizeLine := by rw [← Paired.length rel]; exact hz
  have hl : (putK kvs k v).length ≤ sizeLine := by have := length_putK kvs k v; omega
  refine wpAny_setItem_heap (hsz := hz2) (nroom (X := X) hu) (key_is I.hok hb) dd fun h' dd' hs => h _ (phiN X.prog X.w d (storedH xs (nk k) b r)) ?_ ?_
  · refine DAt.keep (H := H) (fun c ys ec => ?_) ⟨hd, hl, _, rfl, rel.put k hb rv⟩
    rw [upd_ne (ne_of ec e (fun z => nomatch z))]
    exact ec
  · obtain ⟨q, hq⟩ : ∃ q, h'.get? d = some q := let ⟨q, _, _, hq, _⟩ := dd'; ⟨q, hq⟩
    exact d_write I (by rw [e]; exact True.intro) hs ⟨q, hq⟩ (phi_ok dd')
/-- len(d) -/
theorem dn_len {Q : Value → Shared → Prop} (I : Inv X pins σ H s) (e : Rd H d (.ext φ)) (x : DAt X.prog X.w H φ d kvs) (h : ∀ t s', Inv X pins σ H s' → Q (.int kvs.length t) s') : wpAny (model X.prog X.w) A (call (.builtin "len") [.ref d]) Q E s := by
  obtain ⟨hd, hz, xs, rel, dd⟩ := x.dict I.hok e
  have hm : s.heap.DictKeyed (nestedKind X.prog X.w) d (pairsH xs) := ⟨xs, dd, rfl⟩
  have e1 : (pairsH xs).length = kvs.length := by rw [pairsH_length, Paired.length rel]
  refine PyProof.Rows.call_len_slot (n := kvs.length) hm.typeIs PySem.F.slot_dict_len (fun Q' hq => len_keyed hd hm (by rw [e1]; exact hq)) (by omega) (by rw [sizeLine_eq] at hz; omega) (h _ _ (I.tok _))
/-- d.get(k) -/
theorem dn_get {Q : Value → Shared → Prop} (hu : A.units + 10 < cLine) (I : Inv X pins σ H s) (e : Rd H d (.ext φ)) (x : DAt X.prog X.w H φ d kvs) (hb : StT H b k) (h : ∀ w' s', Inv X pins σ H s' → RelV ((valV kvs k).getD .non) w' → Q w' s') :
    wpAny (model X.prog X.w) A (call (.builtin "dict.get") [.ref d, .ref b]) Q E s := by
  obtain ⟨hd, hz, xs, rel, dd⟩ := x.dict I.hok e
  refine call_meetsIn PySem.F.slot_dict_get dd.typeIs PySem.F.entry_dict_get (PySem.F.args_dict_get_2 _ _) (meetsH_dict_get (nestedKind X.prog X.w) d b hd) ⟨nroom (X := X) hu, nk k, xs, key_is I.hok hb, dd, h _ _ (I.tok _) ?_⟩
  exact (rel.val k).getD rfl
end

/-! readings -/
def tDInS (P : Program) (w : World) (neg : Bool) (ty td : TE) : TE := fun σ H Q => ty σ H fun y H1 => td σ H1 fun x H2 => ∃ d b φ kvs k, x = .ref d ∧ y = .ref b ∧ Rd H2 d (.ext φ) ∧ DAt P w H2 φ d kvs ∧ StT H2 b k ∧ Q (.bl (if neg then !(valV kvs k).isSome else (valV kvs k).isSome)) H2
def sDPutS (P : Program) (w : World) (td ty tv : TE) : TS := fun D σ H => tv σ H fun v H1 => td σ H1 fun x H2 => ty σ H2 fun y H3 => ∃ d b φ kvs k, x = .ref d ∧ y = .ref b ∧ H3 d = some (.ext φ) ∧ DAt P w H3 φ d kvs ∧ StT H3 b k ∧ kvs.length < sizeLine ∧
  ∀ φ', DAt P w (upd H3 d (.ext φ')) φ' d (putK kvs k v) → D.nx σ (upd H3 d (.ext φ'))
def tDGetS (P : Program) (w : World) (td ty : TE) : TE := fun σ H Q => td σ H fun x H1 => ∃ d φ kvs, x = .ref d ∧ Rd H1 d (.ext φ) ∧ DAt P w H1 φ d kvs ∧ ty σ H1 fun y H2 => ∃ b k, y = .ref b ∧ Rd H2 d (.ext φ) ∧ DAt P w H2 φ d kvs ∧ StT H2 b k ∧ Q ((valV kvs k).getD .non) H2
def tDNewS (P : Program) (w : World) : TE := fun _ H Q => ∀ p φ, H p = none → DAt P w (upd H p (.ext φ)) φ p [] → Q (.ref p) (upd H p (.ext φ))
section
variable {X : Cx} {o i e value : Expr} {pos pos' : Pos} {td ty tv : TE}
theorem pc_dinS (hu : X.A.units + 10 < cLine) (hi : PE X i ty) (ho : PE X o td) : PC X .In i o (tDInS X.prog X.w false ty td) := by
  refine ⟨fun pins s σ H Q I h => ?_⟩
  refine thn (hi.run pins s σ H _ I h) fun iv s1 ⟨y, H1, I1, ry, q1⟩ => thn (ho.run pins s1 σ H1 _ I1 q1) fun u s2 ⟨x, H2, I2, rx, d, b, φ, kvs, k, ex, ey, g, da, hb, q2⟩ => ?_
  subst ex ey
  obtain rfl : u = Value.ref d := rx
  obtain rfl : iv = Value.ref b := ry
  exact dn_in hu I2 g da hb fun s3 I3 => ⟨.bl _, H2, I3, rfl, q2⟩
theorem pc_dnotinS (hu : X.A.units + 10 < cLine) (hi : PE X i ty) (ho : PE X o td) : PC X .NotIn i o (tDInS X.prog X.w true ty td) := by
  refine ⟨fun pins s σ H Q I h => ?_⟩
  refine thn (hi.run pins s σ H _ I h) fun iv s1 ⟨y, H1, I1, ry, q1⟩ => thn (ho.run pins s1 σ H1 _ I1 q1) fun u s2 ⟨x, H2, I2, rx, d, b, φ, kvs, k, ex, ey, g, da, hb, q2⟩ => ?_
  subst ex ey
  obtain rfl : u = Value.ref d := rx
  obtain rfl : iv = Value.ref b := ry
  exact dn_notIn hu I2 g da hb fun s3 I3 => ⟨.bl _, H2, I3, rfl, q2⟩
theorem ps_dputS (hu : X.A.units + 10 < cLine) (ho : PE X o td) (hi : PE X i ty) (hv : PE X value tv) (hs : swapsWith value (some (.Subscript o i pos')) pos.line X.env = pure false) :
    PS X (.Assign [.Subscript o i pos'] value pos) (sDPutS X.prog X.w td ty tv) := by
  refine ⟨fun pins s σ H D I h => ?_⟩
  refine wpAny_Assign_Subscript (thn (hv.run pins s σ H _ I h) fun r s1 ⟨v, H1, I1, rv, q1⟩ => thn (ho.run pins s1 σ H1 _ I1 q1) fun u s2 ⟨x, H2, I2, rx, q2⟩ => thn (hi.run pins s2 σ H2 _ I2 q2) fun iv s3 ⟨y, H3, I3, ry, d, b, φ, kvs, k, ex, ey, g, da, hb, hz, q3⟩ => ?_) hs
  subst ex ey
  obtain rfl : u = Value.ref d := rx
  obtain rfl : iv = Value.ref b := ry
  exact dn_setItem hu I3 g da hb rv hz fun s4 φ' da' I4 => ⟨σ, _, I4, q3 φ' da'⟩
theorem pe_dgetS {apos cpos : Pos} (hu : X.A.units + 10 < cLine) (ho : PE X o td) (he : PE X e ty) (m : M1 X o "get" apos e cpos) : PE X (.Call (.Attribute o "get" apos) [e] [] cpos) (tDGetS X.prog X.w td ty) := by
  refine ⟨fun pins s σ H Q I h => ?_⟩
  refine wpAny_Call_method m.base m.few m.line PySem.F.plainAttrs_dict PySem.F.slot_dict_get PySem.F.type_dict_get (thn (ho.run pins s σ H _ I h) fun u s1 ⟨x, H1, I1, rx, d, φ, kvs, ex, g, da, q1⟩ => ?_)
  subst ex
  obtain rfl : u = Value.ref d := rx
  obtain ⟨hd, hz, xs, rel, dd⟩ := da.dict I1.hok g
  refine ⟨dd.typeIs, fun c q => ?_, ?_⟩
  · cases q
    obtain ⟨ob, _, _, h1, h2, _⟩ := dd
    exact ⟨ob, h1, h2.2.1⟩
  · rw [m.trees]
    refine Calls.callWith_builtin rfl (Calls.evalArgs_plain (Calls.spliced_cons (thn (he.run pins s1 σ H1 _ I1 q1) fun iv s2 ⟨y, H2, I2, ry, b, k, ey, g2, da2, hb, q2⟩ => Calls.spliced_nil ?_)))
    subst ey
    obtain rfl : iv = Value.ref b := ry
    exact dn_get hu I2 g2 da2 hb fun w' s3 I3 rw' => ⟨_, H2, I3, rw', q2⟩
theorem call_lenS : CallR X (.builtin "len") (fun xs H Q => ∃ d φ kvs, xs = [V.ref d] ∧ Rd H d (.ext φ) ∧ DAt X.prog X.w H φ d kvs ∧ Q (.int kvs.length) H) := by
  intro pins s σ H xs us Q I r h
  obtain ⟨d, φ, kvs, rfl, g, da, q⟩ := h
  obtain ⟨u, rfl, ru⟩ := vals1 r
  cases ru
  exact dn_len I g da fun t s' I' => ⟨.int kvs.length, H, I', ⟨t, rfl⟩, q⟩
theorem dn_empty {P : Program} {w : World} {H : Hp} (h : Heap) : ObjOk P w H (h.push { cls := .type "dict", data := .dict #[] }) h.objs.size (.ext (phiN P w h.objs.size [])) :=
  phi_ok (Heap.DictOfH.new h)
theorem pe_dnewS : PE X (.Dict [] [] pos) (tDNewS X.prog X.w) := ⟨fun pins s σ H Q I h =>
  wpAny_Dict_empty ⟨.ref s.heap.objs.size, _, I.laid (a := s.heap.objs.size) (o := .ext (phiN X.prog X.w s.heap.objs.size [])) (t' := s.toks) (fun _ _ q => Heap.get?_push_of_some _ q) (Nat.le_refl _) (dn_empty s.heap), rfl,
    h _ _ (I.hok.fresh (Nat.le_refl _)) ⟨beq_eq_false_iff_ne.mpr (Ne.symm (Nat.ne_of_lt I.big)), Nat.zero_le _, [], rfl, .nil⟩⟩⟩
end
end CL

namespace CL
open PySem PySem.Spec PyProof.Rows L2

/-! ### a locked dict keyed by states, walked -/
section
variable {X : Cx} {pins : List (Addr × Obj)} {σ : L2.St} {H : Hp} {s : Shared} {d : Addr} {o : Obj} {φ : Heap → Prop} {kvs : List (Sta × V)}
theorem frzN (I : Inv X pins σ H s) (h : H d = some (.frz o (.ext φ))) (x : DAt X.prog X.w H φ d kvs) :
    (d == sysModules) = false ∧ s.heap.get? d = some o ∧ o.ExactDict ∧ ∃ (es : Array DictEntry) (ep : Nat), o.data = .dict es ep ∧ es.size = kvs.length ∧
      ∀ (i : Nat) (k : Sta) (v : V), kvs[i]? = some (k, v) → ∃ (en : DictEntry) (q : Addr), es[i]? = some en ∧ en.key = .ref q ∧ StT H q k := by
  obtain ⟨hd, _⟩ := I.hok d _ h
  obtain ⟨hs, z, xs, rel, o', es, ep, ho, hx, hdt, he, _, _⟩ := x.dict I.hok (.inr ⟨o, h⟩)
  rw [hd] at ho
  cases ho
  refine ⟨hs, hd, hx, es, ep, hdt, ?_, fun i k v e => ?_⟩
  · have l1 : es.size = xs.length := size_of_entries he
    have l2 : kvs.length = xs.length := Paired.length rel
    omega
  · obtain ⟨b, hb, e1, e2, _⟩ := paired_get rel e
    have q := entry_at he i
    rw [hb] at q
    exact ⟨_, b.2.1, q, rfl, e2⟩
end
/-- the keys of the locked dict at d -/
def Itn (P : Program) (w : World) (d : Addr) (o : Obj) (φ : Heap → Prop) (kvs : List (Sta × V)) : It :=
  ⟨fun i H => H d = some (.frz o (.ext φ)) ∧ DAt P w H φ d kvs ∧ i < kvs.length, fun i H x H' => H' = H ∧ ∃ (k : Sta) (v : V) (q : Addr), kvs[i]? = some (k, v) ∧ x = .ref q ∧ StT H q k, fun i H => H d = some (.frz o (.ext φ)) ∧ DAt P w H φ d kvs ∧ kvs.length ≤ i⟩
section
variable {P : Program} {w : World} {K : PySem.W.Frag} {tg : Expr} {d : Addr} {o : Obj} {es : Array DictEntry} {ep : Nat} {φ : Heap → Prop}
theorem turn_keysN {kvs : List (Sta × V)} (it : Addr) (hod : o.data = .dict es ep) : Turn P w K tg (Itn P w d o φ kvs) [it] it (fun i h => h.IsKeyIter it d i kvs.length ep) where
  mem := by simp
  obj := fun i h st b hb => by
    have e : b = it := by simpa using hb
    subst e
    obtain ⟨oi, e, c, dd⟩ := st
    exact ⟨oi, e, fun v z => by rw [dd] at z; cases z⟩
  keep := fun i h h' st k => st.at fun oi e => k it (by simp) oi e
  item := by
    intro X hP hw hK hc i pins s σ H E I hf st hg
    subst hP hw hK
    obtain ⟨hd, da, hi⟩ := hg
    obtain ⟨f0, f1, f2, f3, f4, f5⟩ := hf it (by simp)
    obtain ⟨hs, hgd, hx, es', ep', hdt, hsz, ent⟩ := frzN I hd da
    obtain ⟨rfl, rfl⟩ := dict_ep hod hdt
    obtain ⟨⟨k, v⟩, hkv⟩ : ∃ p, kvs[i]? = some p := ⟨kvs[i], List.getElem?_eq_getElem hi⟩
    obtain ⟨en, q, hen, hkey, hq⟩ := ent i k v hkv
    refine next_key_item st hgd hdt hsz hen fun h' st' sb => ?_
    have I1 : Inv X pins σ H { s with heap := h' } := I.turned (t' := s.toks) (fun b ob hb e => (sb.2 b hb).trans e) f0 f1 f3 f4 f5
    obtain ⟨oi, e, c, dd⟩ := id st'
    exact ⟨en.key, rfl, go_of (s := { s with heap := h' }) e c dd (by decide) ⟨.ref q, H, I1, hkey, ⟨rfl, k, v, q, hkv, rfl, hq⟩, st', fun b hb => (hf b hb).1⟩⟩
  done := by
    intro X hP hw hK hc i pins s σ H E I hf st hg
    subst hP hw hK
    obtain ⟨hd, da, hi⟩ := hg
    obtain ⟨f0, f1, f2, f3, f4, f5⟩ := hf it (by simp)
    obtain ⟨hs, hgd, hx, es', ep', hdt, hsz, ent⟩ := frzN I hd da
    obtain ⟨rfl, rfl⟩ := dict_ep hod hdt
    exact next_key_end (I.ok.hd hc) st hgd hdt hsz hi fun h' eb => ⟨rfl, I.turned (t' := s.toks) (fun b ob hb e => eb b ob hb e) f0 f1 f3 f4 f5⟩
  self := fun A i s Q E st h => by
    refine wpAny_pyIter_slot st.typeIs F.slot_dict_keyiterator_iter (wpAny_call_entry F.slot_dict_keyiterator_iter st.typeIs F.entry_dict_keyiterator_iter ?_ (F.args_dict_keyiterator_iter_1 _))
    show wpAny _ _ (ret (.ref it)) _ _ s
    exact wpAny_pure ⟨_, rfl, "dict_keyiterator", _, st.typeIs, F.slot_dict_keyiterator_next.lookup, h⟩
end
def iKeysN (P : Program) (w : World) (td : TE) : TI := fun σ H R => td σ H fun x H1 => ∃ d o φ kvs, x = .ref d ∧ H1 d = some (.frz o (.ext φ)) ∧ DAt P w H1 φ d kvs ∧ R (Itn P w d o φ kvs) H1
theorem pi_keysN {X : Cx} {tg e : Expr} {td : TE} (he : PE X e td) : PI X tg e (iKeysN X.prog X.w td) := by
  refine ⟨fun pins s σ H R I h => ?_⟩
  refine thn (he.run pins s σ H _ I h) fun u s1 ⟨x, H1, I1, rx, d, o, φ, kvs, ex, hd, da, q⟩ => ?_
  subst ex
  obtain rfl : u = Value.ref d := rx
  obtain ⟨hs, hgd, hx, es, ep, hdt, hsz, ent⟩ := frzN I1 hd da
  refine iter_keys hs hgd hx hdt (pi_one (tk := s1.toks) I1 _ (turn_keysN _ hdt) ⟨_, Heap.get?_push_size _ rfl, rfl, ?_⟩ q)
  rw [hsz] <;> rfl

/-! ### enumerate(tuple) -/
theorem meets_enumerate_newT (l : Addr) (items : Array Value) (n : Nat) (dct : Option Addr) (sl : Array (Option Value)) :
    Meets (Builtin.«enumerate.__new__» ⟨[.type "enumerate", .ref l], []⟩) (fun _ R s => s.heap.get? l = some { cls := .type "tuple", dict := dct, data := .seq items n, slots := sl } ∧
      R (.ok (.ret (.ref (s.heap.push { cls := .type "tuple_iterator", data := .fields #[.ref l, .int 0 0] }).objs.size)))
        { s with heap := (s.heap.push { cls := .type "tuple_iterator", data := .fields #[.ref l, .int 0 0] }).push { cls := .type "enumerate", data := .fields #[.none, .bool false, .ref s.heap.objs.size, rawInt 0, .none, .none] } }) :=
  .of_wp fun prog w A R s h => by
    obtain ⟨hp, g, d, tk, os⟩ := s; obtain ⟨hl, h⟩ := h
    have hsub := sub_enumerate
    have hL : Heap.IsTuple (Shared.heap ⟨hp, g, d, tk, os⟩) l items := ⟨_, hl, rfl, n, rfl⟩
    wp_walk using AutoSeq1.wpAny_loadPart' hl
    refine wpAny_stack_any fun st => wpAny_pure ?_
    split
    · rename_i c _ _ _ _ _
      cases (c == Value.type "enumerate")
      · wp_walk using AutoSeq1.wpAny_loadPart' hl, wpAny_pyIter_tuple hL
        exact ⟨_, rfl, h⟩
      · wp_walk using AutoSeq1.wpAny_loadPart' hl, wpAny_pyIter_tuple hL
        exact ⟨_, rfl, h⟩
    · wp_walk using AutoSeq1.wpAny_loadPart' hl, wpAny_pyIter_tuple hL
      exact ⟨_, rfl, h⟩
theorem call_enumerate_tuple {prog : Program} {w : World} {A : Around} {E : Value → Shared → Prop} {s : Shared} {l : Addr} {items : Array Value} {Q : Value → Shared → Prop} (hL : s.heap.IsTuple l items)
    (h : ∀ h', IsEnum h' (s.heap.objs.size + 1) s.heap.objs.size 0 .none → h'.IsTupleIter s.heap.objs.size l 0 → h'.objs.size = s.heap.objs.size + 2 →
      (∀ b o, s.heap.get? b = some o → h'.get? b = some o) → Q (.ref (s.heap.objs.size + 1)) { s with heap := h' }) :
    wpAny (model prog w) A (call (.type "enumerate") [.ref l]) Q E s := by
  obtain ⟨⟨c, dct, dt, sl⟩, hl, hc, n, hd⟩ := hL
  replace hc : c = .type "tuple" := hc
  replace hd : dt = .seq items n := hd
  subst hc hd
  refine callType_new F.called_enumerate (by decide) (F.typeCall_enumerate_1 _) (F.newCall_enumerate_1 _) (fun obj => F.args_object_init_2 obj _) F.entry_enumerate_new
    (meets_enumerate_newT l items n dct sl) ⟨hl, ?_⟩
  have hz : (s.heap.push { cls := .type "tuple_iterator", data := .fields #[.ref l, .int 0 0] }).objs.size = s.heap.objs.size + 1 := Heap.size_push ..
  show _ ∧ _
  rw [hz]
  have he : IsEnum ((s.heap.push { cls := .type "tuple_iterator", data := .fields #[.ref l, .int 0 0] }).push
      { cls := .type "enumerate", data := .fields #[.none, .bool false, .ref s.heap.objs.size, rawInt 0, .none, .none] }) (s.heap.objs.size + 1) s.heap.objs.size 0 .none := by
    have := Heap.get?_push_size (s.heap.push { cls := .type "tuple_iterator", data := .fields #[.ref l, .int 0 0] })
      (o := { cls := .type "enumerate", data := .fields #[.none, .bool false, .ref s.heap.objs.size, rawInt 0, .none, .none] }) rfl
    rw [hz] at this; exact this
  refine ⟨⟨_, he, rfl⟩, h _ he ⟨_, Heap.get?_push_of_some _ (Heap.get?_push_size _ rfl), rfl, rfl⟩ (by rw [Heap.size_push, hz]) fun b o x => Heap.get?_push_of_some _ (Heap.get?_push_of_some _ x)⟩

/-- the tuple at a, each item in a new pair -/
def Itet (K : PySem.W.Frag) (a : Addr) : It :=
  ⟨fun i H => ∃ (xs : List V) (x : V), SqT K H a xs ∧ xs[i]? = some x, fun i H v H' => ∃ T x, v = .ref T ∧ H T = none ∧ H' = upd H T (.tup [.int (i : Nat), x]) ∧ ∀ xs, SqT K H a xs → xs[i]? = some x, fun i H => ∃ xs : List V, SqT K H a xs ∧ xs.length = i⟩
theorem turn_enumT {P : Program} {w : World} {K : PySem.W.Frag} {elts : List Expr} {kk : Nat} {tpos : Pos} (a e it : Addr) :
    Turn P w K (.Tuple elts kk tpos) (Itet K a) [e, it] e (fun i h => (∃ old, IsEnum h e it ((i : Nat) : Int) old) ∧ h.IsTupleIter it a i ∧ e ≠ it ∧ a ≠ e ∧ a ≠ it) where
  mem := by simp
  obj := fun i h st b hb => by
    obtain ⟨⟨old, he⟩, ⟨o, ho, hc, hd⟩, _⟩ := st
    have e' : b = e ∨ b = it := by simpa using hb
    rcases e' with z | z
    · rw [z]; exact ⟨_, he, fun v q => nomatch q⟩
    · rw [z]; exact ⟨o, ho, fun v q => by rw [hd] at q; cases q⟩
  keep := fun i h h' st k => let ⟨⟨old, he⟩, hi, hne⟩ := st; ⟨⟨old, k e (by simp) _ he⟩, hi.at fun o q => k it (by simp) o q, hne⟩
  item := by
    intro X hP hw hK hc i pins s σ H E I hf st hg
    subst hP hw hK
    obtain ⟨⟨old, he⟩, hit, hne, hae, hai⟩ := st
    obtain ⟨xs, x, hq, hx⟩ := hg
    obtain ⟨its, rv, p, hz⟩ := I.tuple hq
    obtain ⟨u, hu, ru⟩ := rv.get hx
    have hel : e < s.heap.objs.size := Heap.lt_size he
    have hil : it < s.heap.objs.size := by obtain ⟨_, q, _⟩ := hit; exact Heap.lt_size q
    have hT0 : s.heap.IsTuple a its.toArray := p
    have hlt : i < its.toArray.size := by
      have := (List.getElem?_eq_some_iff.mp hu).1
      simpa using this
    refine wpAny_pyNext_enum_itemD (P := fun i v => its.toArray[i]? = some v) (St := fun i h => h.IsTupleIter it a i ∧ h.IsTuple a its.toArray) (Draws.tuple (A := X.A.in1) (I.ok.hd hc) it a hai its.toArray) he ⟨hit, hT0⟩ hlt hne (fun z => (List.mem_cons.mp z).elim hne fun z => hae (List.mem_singleton.mp z).symm) fun x' h' tk hx' ho hst hT hsz hk => ?_
    have ex : x' = u := by
      have h1 : its.toArray[i]? = some x' := hx'
      rw [show its.toArray[i]? = some u by simpa using hu] at h1
      exact (Option.some.inj h1).symm
    subst ex
    obtain ⟨hit', _⟩ := hst
    refine ⟨_, rfl, wpAny_letOwnedTupleGo_enum (s := { s with heap := h', toks := tk + 1 }) ho fun h'' he' sb => ?_⟩
    have hT2 : h''.get? s.heap.objs.size = some { cls := .type "tuple", data := .seq #[.int i tk, x'] } := (sb.2 _ (Nat.ne_of_gt hel)).trans hT
    have new : ObjOk X.prog X.w (upd H s.heap.objs.size (.tup [.int (i : Nat), x])) h'' s.heap.objs.size (.tup [.int (i : Nat), x]) :=
      ⟨by show 2 ≤ sizeLine; decide, [.int i tk, x'], .cons ⟨_, rfl⟩ (.cons ru .nil), ⟨_, hT2, rfl, _, rfl⟩⟩
    have I1 : Inv X pins σ (upd H s.heap.objs.size (.tup [.int (i : Nat), x])) { s with heap := h'', toks := tk + 1 } :=
      I.turnedNew (ch := [e, it]) (fun b ob hb q => (sb.2 b (fun z => hb (by simp [z]))).trans (hk b ob (fun z => hb (by simp [z])) (fun z => hb (by simp [z])) q)) hf (Nat.le_refl _) new
    refine ⟨.ref s.heap.objs.size, _, I1, rfl, ⟨_, x, rfl, I.hok.fresh (Nat.le_refl _), rfl, fun ys hy => by rw [I.tuple_inj hy hq]; exact hx⟩, ⟨⟨x', ?_⟩, hit'.at fun o q => (sb.2 it (Ne.symm hne)).trans q, hne, hae, hai⟩, fun b hb => ?_⟩
    · have e1 : ((i + 1 : Nat) : Int) = (i : Int) + 1 := by omega
      rw [e1]; exact he'
    · have hb' : b < s.heap.objs.size := by
        have e' : b = e ∨ b = it := by simpa using hb
        rcases e' with z | z
        · rw [z]; exact hel
        · rw [z]; exact hil
      rw [upd_ne (Nat.ne_of_lt hb')]
      exact (hf b hb).1
  done := by
    intro X hP hw hK hc i pins s σ H E I hf st hg
    subst hP hw hK
    obtain ⟨⟨old, he⟩, hit, hne, hae, hai⟩ := st
    obtain ⟨xs, hq, hx⟩ := hg
    obtain ⟨its, rv, p, hz⟩ := I.tuple hq
    obtain ⟨f0, f1, f2, f3, f4, f5⟩ := hf it (by simp)
    have hl := rv.length
    have hT0 : s.heap.IsTuple a its.toArray := p
    have hsz : its.toArray.size = i := by rw [List.size_toArray]; omega
    have D := Draws.tuple (prog := X.prog) (w := X.w) (A := X.A.in1) (I.ok.hd hc) it a hai its.toArray
    rw [hsz] at D
    exact wpAny_pyNext_enum_endD D he ⟨hit, hT0⟩ fun h' eb => ⟨rfl, I.turned (t' := s.toks) (fun b o hb q => eb b o hb q) f0 f1 f3 f4 f5⟩
  self := fun A i s Q E st h => let ⟨⟨_, he⟩, _⟩ := st; wpAny_pyIter_enum he h
def iEnumT (K : PySem.W.Frag) (ta : TA) : TI := fun σ H R => ta σ H fun vs H1 => ∃ a xs, vs = [.ref a] ∧ SqT K H1 a xs ∧ R (Itet K a) H1
theorem pi_enumT {X : Cx} {e : Expr} {ta : TA} {p pos tpos : Pos} {elts : List Expr} {kk : Nat} (hg : Gl X "enumerate") (hm : X.mg "enumerate" = none) (ha : PA X [e] ta) (hs : starEach [e] X.env = [(false, eval e X.env)] := by rfl) :
    PI X (.Tuple elts kk tpos) (.Call (.Name "enumerate" p) [e] [] pos) (iEnumT X.K ta) := by
  refine ⟨fun pins s σ H R I h => ?_⟩
  refine Call_ (ld_blt I hg hm boot_enumerate (PyProof.Rows.callWith_type1 (thn (ha.run pos pins s σ H _ I h) fun us s1 ⟨vs, H1, I1, r1, q1⟩ => ?_) hs rfl))
  obtain ⟨a, xs, ex, hq, q⟩ := q1
  subst ex
  cases r1 with
  | cons r rr =>
    cases rr
    cases r
    obtain ⟨its, rv, p', hz⟩ := I1.tuple hq
    have hT0 : s1.heap.IsTuple a its.toArray := p'
    have hal : a < s1.heap.objs.size := p'.lt
    refine call_enumerate_tuple hT0 fun h' he hit hsz hk => wpAny_pyIter_enum he ?_
    have I2 : Inv X pins σ H1 { s1 with heap := h' } := I1.kept (t' := s1.toks) hk
    refine ⟨s1.heap.objs.size + 1, [s1.heap.objs.size + 1, s1.heap.objs.size], _, _, H1, rfl, I2, turn_enumT a (s1.heap.objs.size + 1) s1.heap.objs.size, ⟨⟨.none, he⟩, hit, Nat.succ_ne_self _, Nat.ne_of_lt (Nat.lt_succ_of_lt hal), Nat.ne_of_lt hal⟩, fun b hb => ?_, q⟩
    have e' : b = s1.heap.objs.size + 1 ∨ b = s1.heap.objs.size := by simpa using hb
    have hle : s1.heap.objs.size ≤ b := by
      rcases e' with z | z
      · rw [z]; exact Nat.le_add_right _ _
      · rw [z]; exact Nat.le_refl _
    exact I1.fpOk hle (I1.hok.fresh hle)
theorem walk_enumT {K : PySem.W.Frag} {a : Addr} {xs : List V} : Walk (Itet K a) xs.length (fun H => SqT K H a xs) (YPair (fun i => some (.int (i : Nat))) (fun i => xs[i]?)) := by
  refine ⟨fun i _ hi q => ⟨xs, xs[i], q, by simp [hi]⟩, fun _ q => ⟨xs, q, rfl⟩, fun i H v H' _ q y => ?_⟩
  obtain ⟨T, x, h1, h2, h3, h4⟩ := y
  exact ⟨T, .int (i : Nat), x, h1, h2, h3, rfl, h4 xs q⟩
theorem walk_keysN {P : Program} {w : World} {d : Addr} {o : Obj} {φ : Heap → Prop} {kvs : List (Sta × V)} : Walk (Itn P w d o φ kvs) kvs.length (fun H => H d = some (.frz o (.ext φ)) ∧ DAt P w H φ d kvs)
    (fun i H x H' => H' = H ∧ ∃ (k : Sta) (v : V) (q : Addr), kvs[i]? = some (k, v) ∧ x = .ref q ∧ StT H q k) :=
  ⟨fun _ _ hi q => ⟨q.1, q.2, hi⟩, fun _ q => ⟨q.1, q.2, Nat.le_refl _⟩, fun _ _ _ _ _ _ y => y⟩

/-! ### list(d) -/
theorem call_listS {X : Cx} (hc : X.calm = true) : CallR X (.type "list") (fun xs H Q => ∃ d φ kvs, xs = [V.ref d] ∧ Rd H d (.ext φ) ∧ DAt X.prog X.w H φ d kvs ∧
    ∀ p bs, H p = none → Paired (fun (kv : Sta × V) (b : Addr) => StT H b kv.1) kvs bs → Q (.ref p) (upd H p (.lst (bs.map V.ref)))) := by
  intro pins s σ H xs us Q I r h
  obtain ⟨d, φ, kvs, rfl, hd, da, q⟩ := h
  obtain ⟨u, rfl, rx⟩ := r.one
  cases rx
  obtain ⟨hs, z, ks, rel, o, es, ep, ho, hx, hdt, he, _, hn⟩ := da.dict I.hok hd
  have l1 : es.size = ks.length := size_of_entries he
  have l2 : kvs.length = ks.length := Paired.length rel
  refine PySem.W.kdl_call (kdl_raw hs hx hdt) (I.ok.hd hc) ho (by omega) fun h' tk acc' c' kp e it => ?_
  have ea : acc'.toList = ks.map fun x => Value.ref x.2.1 := by
    have hl : acc'.toList.length = ks.length := by rw [Array.length_toList, it.1]; exact l1
    apply List.ext_getElem?
    intro j
    rw [List.getElem?_map]
    cases hj : acc'.toList[j]? with
    | none =>
      have h1 := List.getElem?_eq_none_iff.mp hj
      rw [List.getElem?_eq_none (by omega)]
      all_goals rfl
    | some v =>
      obtain ⟨en, hen, hv⟩ := it.2 j v (by rw [← Array.getElem?_toList]; exact hj)
      have qe := entry_at he j
      rw [hen] at qe
      cases hb : ks[j]? with
      | none =>
        rw [hb] at qe
        exact nomatch (show some en = none from qe)
      | some b =>
        rw [hb] at qe
        have e2 : en = entryOfKey (nestedKind X.prog X.w) b := Option.some.inj qe
        rw [hv, e2]
        all_goals rfl
  have eb : acc'.toList = (ks.map fun x => x.2.1).map Value.ref := by rw [ea, List.map_map]; all_goals rfl
  have rv : Vals ((ks.map fun x => x.2.1).map V.ref) acc'.toList := by rw [eb]; exact vals_refs _
  have hz : ((ks.map fun x => x.2.1).map V.ref).length ≤ sizeLine := by rw [List.length_map, List.length_map]; omega
  have pr : Paired (fun (kv : Sta × V) (b : Addr) => StT H b kv.1) kvs (ks.map fun x => x.2.1) := by
    clear eb rv hz ea l1 l2 he hn it da z q
    rename_i hka
    clear hka
    induction rel with
    | nil => exact .nil
    | cons h t ih => exact .cons h.2.1 ih
  refine ⟨.ref s.heap.objs.size, _, I.laid (t' := tk) (o := .lst ((ks.map fun x => x.2.1).map V.ref)) kp (Nat.le_refl _) ?_, rfl, q _ _ (I.hok.fresh (Nat.le_refl _)) pr⟩
  exact ⟨hz, acc'.toList, c', rv, by rw [Array.toArray_toList]; exact e⟩

/-! ### a dict displayed with one state -/
def tDispS (P : Program) (w : World) (tk tv : TE) : TE := fun σ H Q => ∀ p, H p = none → ∀ φ, DAt P w (upd H p (.ext φ)) φ p [] → tPairs [(tk, tv)] σ (upd H p (.ext φ)) fun ps H2 => ∃ y b k, ps = [(V.ref b, y)] ∧ StT H2 b k ∧ H2 p = some (.ext φ) ∧
  ∀ φ', DAt P w (upd H2 p (.ext φ')) φ' p [(k, y)] → Q (.ref p) (upd H2 p (.ext φ'))
theorem one_pair {P : Program} {w : World} {h : Heap} {d b : Addr} {k : NestedKey} {v : Value} {xs : List (NestedKey × Addr × Value)} (hk : (nestedKind P w).is h k b) (dd : h.DictOfH (nestedKind P w) d xs) (e : pairsH xs = [(k, v)]) :
    ∃ c, xs = [(k, c, v)] := by
  match xs, e with
  | [(k', c, v')], e =>
    unfold pairsH at e
    have e1 : (k', v') = (k, v) := by simpa using e
    obtain ⟨rfl, rfl⟩ := Prod.mk.inj e1
    exact ⟨c, rfl⟩
  | [], e => simp [pairsH] at e
  | _ :: _ :: _, e => simp [pairsH] at e
theorem pe_dispS {X : Cx} {pos : Pos} {k v : Expr} {tk tv : TE} (hu : X.A.units + 10 < cLine) (hk : PE X k tk) (hv : PE X v tv) : PE X (.Dict [some k] [v] pos) (tDispS X.prog X.w tk tv) := by
  refine ⟨fun pins s σ H Q I q => ?_⟩
  have hn := I.hok.fresh (Nat.le_refl s.heap.objs.size)
  have hS : (s.heap.objs.size == sysModules) = false := beq_eq_false_iff_ne.mpr (Ne.symm (Nat.ne_of_lt I.big))
  have I1 := I.laid (a := s.heap.objs.size) (o := .ext (phiN X.prog X.w s.heap.objs.size [])) (h' := s.heap.push { cls := .type "dict", data := .dict #[] }) (t' := s.toks) (fun _ _ q => Heap.get?_push_of_some _ q) (Nat.le_refl _) (dn_empty s.heap)
  have q1 := q _ hn _ ⟨hS, Nat.zero_le _, [], rfl, .nil⟩
  have hrun := (pps_cons hk hv (pps_nil (X := X) (pos := pos))).run pins _ σ _ _ I1 q1
  have hl := pairTrees_length [some k] [v] X.env pos rfl rfl
  rw [arm_eval_Dict, zip_pairTrees [some k] [v] X.env pos rfl rfl, dictDisplay_pairs _ (fun he => by rw [he] at hl; cases hl) (by rw [hl]; show 1 < 17; decide)]
  refine wpAny_bind (wpAny_standAt (wpAny_bind (wpAny_subDictH (knd := nestedKind X.prog X.w) (Q := fun d s' => wpAny (model X.prog X.w) X.A (pure (Value.ref d)) _ _ s') (show X.A.units + 8 < cLine by omega) (by rw [hl]; show 1 ≤ 15; decide) (thn hrun fun ws s2 ⟨ps, H2, I2, rel, y, b, k, ep, hb, e, q2⟩ => ?_))))
  subst ep
  cases rel with
  | @cons p0 w0 ps0 ws0 r rs =>
    cases rs
    obtain ⟨w1, w2⟩ := w0
    obtain ⟨r1, r2⟩ := r
    cases r1
    have dd : s2.heap.DictOfH (nestedKind X.prog X.w) s.heap.objs.size [] := by
      obtain ⟨o, es, ep, e1, e2, e3, e4, e5⟩ := phi_of I2.hok (.inl e)
      exact ⟨o, es, ep, e1, e2, e3, e4, (fun _ hx => nomatch hx), e5⟩
    refine ⟨[(nk k, b, w2)], ⟨rfl, rfl, key_is I2.hok hb, trivial⟩, dd, fun h' tk dk hs => wpAny_pure ⟨.ref s.heap.objs.size, _, ?_, rfl, q2 (phiN X.prog X.w s.heap.objs.size [(nk k, b, w2)]) ?_⟩⟩
    · obtain ⟨qo, hq⟩ : ∃ qo, h'.get? s.heap.objs.size = some qo := let ⟨q, _, _, hq, _⟩ := dk; ⟨q, hq⟩
      exact d_write I2 (by rw [e]; exact True.intro) hs ⟨qo, hq⟩ (phi_ok dk)
    · refine DAt.keep (H := H2) (fun c ys ec => ?_) ⟨hS, by show 1 ≤ sizeLine; decide, _, rfl, .cons ⟨rfl, hb, r2⟩ .nil⟩
      rw [upd_ne (ne_of ec e (fun z => nomatch z))]
      exact ec

/-! ### sorted(list of states) -/
def encS (s : Sta) : PyData := .tuple (s.map fun l => .tuple (l.map .int))
theorem alike_lines : ∀ s t : Sta, PySem.W.alikeAll (s.map fun l => PyData.tuple (l.map .int)) (t.map fun l => PyData.tuple (l.map .int)) = true
  | [], _ => by simp [PySem.W.alikeAll]
  | _ :: _, [] => by simp [PySem.W.alikeAll]
  | x :: s, y :: t => by
    show PySem.W.alikeAll (PyData.tuple (x.map .int) :: s.map fun l => PyData.tuple (l.map .int)) (PyData.tuple (y.map .int) :: t.map fun l => PyData.tuple (l.map .int)) = true
    rw [PySem.W.alikeAll, alike_lines s t, PySem.W.alike, PySem.W.alike_ints]
    rfl
theorem depth_enc_lines : ∀ s : Sta, PyData.depthAll (s.map fun l => PyData.tuple (l.map .int)) ≤ 1
  | [] => by simp [PyData.depthAll]
  | x :: s => by
    show PyData.depthAll (PyData.tuple (x.map .int) :: s.map fun l => PyData.tuple (l.map .int)) ≤ 1
    have := depth_enc_lines s
    rw [PyData.depthAll, PyData.depth, PySem.W.depth_ints]
    omega
theorem dp_ints {K : PySem.W.Frag} {H : Hp} : ∀ l : List Int, DpAll K H (l.map V.int) (l.map PyData.int)
  | [] => .nil
  | x :: l => .cons (.int x) (dp_ints l)
theorem dp_lines {K : PySem.W.Frag} {H : Hp} : ∀ {as : List Addr} {s : Sta}, Paired (LineT H) as s → DpAll K H (as.map V.ref) (s.map fun l => PyData.tuple (l.map .int))
  | [], _, p => by cases p; exact .nil
  | a :: as, _, p => by
    cases p with
    | cons h t => exact .cons (.tup (SqT.of h) (dp_ints _)) (dp_lines t)
theorem StT.dp {K : PySem.W.Frag} {H : Hp} {a : Addr} {s : Sta} (x : StT H a s) : Dp K H (.ref a) (encS s) := by
  obtain ⟨as, h1, h2⟩ := x
  exact .tup (SqT.of h1) (dp_lines h2)
theorem dataLe_perm {bs : List Sta} : (bs.mergeSort (PySem.W.dataLe false encS)).Perm bs := List.mergeSort_perm _ _
theorem cr_sortedS' {X : Cx} (hu : X.A.units + 20 < cLine) : CallR X (.builtin "sorted") (fun xs H Q => ∃ a as bs, xs = [V.ref a] ∧ SqL X.K H a (as.map V.ref) ∧ Paired (StT H) as bs ∧ (∀ b ∈ bs, b ≠ []) ∧
    ∀ p as' bs', H p = none → Paired (StT H) as' bs' → bs'.Perm bs → Q (.ref p) (upd H p (.lst (as'.map V.ref)))) := by
  intro pins s σ H vs us Q I r h
  obtain ⟨a, as, bs, rfl, hs, pr, hne, q⟩ := h
  obtain ⟨its, rv, hl, hz⟩ := I.list hs
  rw [Vals.ref1 r]
  have hits : its = as.map Value.ref := refs_at rv
  have each : ∀ {as : List Addr} {bs : List Sta}, Paired (StT H) as bs → PySem.W.EachIs (fun (v : Value) (b : Sta) => ∃ c, v = .ref c ∧ StT H c b) (as.map Value.ref) bs := by
    intro as bs p
    induction p with
    | nil => exact .nil
    | cons h t ih => exact .cons ⟨_, rfl, h⟩ ih
  have e1 := each pr
  rw [← hits] at e1
  have hL : bs.length ≤ sizeLine := by
    rw [← Paired.length pr]
    rw [List.length_map] at hz
    exact hz
  refine PySem.W.sorted_data (enc := encS) (bs := bs) hl.isList e1 (e1.mono fun v b ⟨c, ec, hc⟩ => by subst ec; exact Dp.reads I _ (.ref c) (.ref c) (StT.dp hc) rfl) (PySem.W.AllAlike.of fun b b' => by unfold encS; rw [PySem.W.alike]; exact alike_lines b b')
    (.inl fun d hd => ?_) hL (fun b _ => ?_) fun out ho eo => ?_
  · obtain ⟨b, hb, rfl⟩ := List.mem_map.mp hd
    have := hne b hb
    match b, this with
    | x :: r, _ => exact ⟨_, _, rfl⟩
  · have : (encS b).depth ≤ 2 := by
      unfold encS
      rw [PyData.depth]
      have := depth_enc_lines b
      omega
    omega
  · obtain ⟨ep, he'⟩ := PyProof.Rows.sortedAll_at s.heap its out.toArray
    have back : ∀ {vs : List Value} {bs : List Sta}, PySem.W.EachIs (fun (v : Value) (b : Sta) => ∃ c, v = .ref c ∧ StT H c b) vs bs → ∃ as' : List Addr, vs = as'.map Value.ref ∧ Paired (StT H) as' bs := by
      intro vs bs e
      induction e with
      | nil => exact ⟨[], rfl, .nil⟩
      | cons h t ih =>
        obtain ⟨c, rfl, hc⟩ := h
        obtain ⟨as', rfl, p⟩ := ih
        exact ⟨c :: as', rfl, .cons hc p⟩
    obtain ⟨as', ea, pa⟩ := back eo
    have hlen : (as'.map V.ref).length ≤ sizeLine := by
      rw [List.length_map, Paired.length pa, List.length_mergeSort]
      exact hL
    refine ⟨.ref _, upd H (s.heap.objs.size + 1) (.lst (as'.map V.ref)), I.laid (t' := s.toks) (fun _ _ => PyProof.Rows.sortedAll_old) (Nat.le_succ _) ⟨hlen, out, ep, by rw [ea]; exact vals_refs _, he'⟩, rfl, q _ as' _ (I.hok.fresh (Nat.le_succ _)) pa dataLe_perm⟩

/-! ### tuple * 1 -/
theorem tuple_mul1 (l : Addr) (items : Array Value) (n : Nat) (dd : Option Addr) (sl : Array (Option Value)) (u : Tok) :
    Meets (Builtin.«tuple.__mul__» ⟨[.ref l, .int 1 u], []⟩) (fun _ R s => s.heap.get? l = some { cls := .type "tuple", dict := dd, data := .seq items n, slots := sl } ∧ R (.ok (.ret (.ref l))) s) :=
  .of_wp fun prog w A R s h => by
    obtain ⟨hp, g, d, tk, os⟩ := s
    obtain ⟨hl, h⟩ := h
    have f1 := AutoSeq1.idx_int
    wp_walk using AutoSeq1.wpAny_loadPart' hl
    exact ⟨_, rfl, h⟩
def rRepA (K : PySem.W.Frag) : R2 := fun x y H Q => ∃ l k xs, x = .ref l ∧ y = .int k ∧ SqT K H l xs ∧ ((k = 1 ∧ Q (.ref l) H) ∨ (xs ≠ [] ∧ 2 ≤ k ∧ k ≤ 1000 ∧ xs.length ≤ 1000 ∧ ∀ p, H p = none → Q (.ref p) (upd H p (.tup (List.replicate k.toNat xs).flatten))))
theorem op_repA {X : Cx} : OpR X (binaryOp .Mult) (rRepA X.K) := by
  intro pins s σ H x y v u Q I rx ry h
  obtain ⟨l, k, xs, ex, ey, hT, h⟩ := h
  rcases h with ⟨hk, q⟩ | ⟨h1, h2, h3, h4, h5⟩
  · subst ex ey hk
    cases rx
    obtain ⟨t, rfl⟩ := ry
    obtain ⟨its, r, ⟨⟨cls, dd, data, sl⟩, ho, hc, n, hd⟩, hs⟩ := I.tuple hT
    simp only at hc hd
    subst hc hd
    refine wpAny_binaryOp_repeat_ref (T := "tuple") (U := "int") (by decide) ⟨_, ho, rfl⟩ (fun s' => typeIs_int s' 1 t) noFill_tuple_mul F.fills_int_mul F.slot_int_rmul repeat_tuple F.slot_int_index.lookup
      (call_meets F.slot_int_rmul (typeIs_int s 1 t) F.entry_int_rmul (F.args_int_rmul_2 _ _) (int_rmul_tuple 1 t l its.toArray n dd sl)
        ⟨ho, rfl, ⟨_, ho, rfl⟩, call_meets F.slot_tuple_mul ⟨_, ho, rfl⟩ F.entry_tuple_mul (F.args_tuple_mul_2 _ _) (tuple_mul1 l its.toArray n dd sl t) ⟨ho, ?_⟩⟩)
    exact ⟨.ref l, H, I, rfl, q⟩
  · exact op_repT pins s σ H x y v u Q I rx ry ⟨l, k, xs, ex, ey, hT, h1, h2, h3, h4, h5⟩
end CL

namespace CL
open PySem PySem.Spec PyProof.Rows L2
/-! ### the text by places -/
def top (i : Nat) : Stmt := PySem.Challenge.pw_counterlines_k75_whole_single_places.main.body.getD i (.Pass ⟨0, 0, 0, 0⟩)
abbrev sInteger : Stmt := top 1
abbrev sIn : Stmt := top 2
abbrev sList : Stmt := top 3
abbrev sOffice : Stmt := top 14
abbrev sLines : Stmt := top 15
abbrev sState : Stmt := top 16
abbrev sCounter : Stmt := top 17
abbrev sAll : Stmt := top 18
abbrev sNumber : Stmt := top 19
abbrev sStates : Stmt := top 20
abbrev sCall : Stmt := top 22
abbrev sFits : Stmt := top 24
abbrev sReach : Stmt := top 25
abbrev sLimit : Stmt := top 26
abbrev sNarrow : Stmt := top 27
abbrev sCount : Stmt := top 28
abbrev sTaken : Stmt := top 30
abbrev sDraw : Stmt := top 31
abbrev sLaw : Stmt := top 32
/-- a def of the text, called by its name -/
structure Dfn (K : PySem.W.Frag) (mg : Str → Option Value) (name : Str) (st : Stmt) (ps : List Str) (f : Addr) (fd : FuncData) : Prop where
  fn : Fun K name name st f fd
  at_ : mg name = some (.ref f)
  bi : Binds K fd ps []
/-- the built-in names and the constants -/
structure Txt (mg : Str → Option Value) : Prop where
  isinstance : mg "isinstance" = none
  int : mg "int" = none
  bool : mg "bool" = none
  tuple : mg "tuple" = none
  len : mg "len" = none
  enumerate : mg "enumerate" = none
  range : mg "range" = none
  sorted : mg "sorted" = none
  list : mg "list" = none
  all : mg "all" = none
  people : ∃ t, mg "MOST_PEOPLE" = some (.int 7 t)
  counters : ∃ t, mg "MOST_COUNTERS" = some (.int 6 t)
  states : ∃ t, mg "MOST_STATES" = some (.int 20000 t)

theorem bT {c : Prop} [Decidable c] (h : c) : V.bl (decide c) = V.bl true := by rw [decide_eq_true h]
theorem bF {c : Prop} [Decidable c] (h : ¬ c) : V.bl (decide c) = V.bl false := by rw [decide_eq_false h]
theorem same_upd {H : Hp} {p : Addr} {o : HO} (h : H p = none) : Same H (upd H p o) := fun b x e => by
  rw [upd_ne (ne_of_none e h)]
  exact e
theorem StT.same {H H' : Hp} (e : Same H H') {a : Addr} {s : Sta} (x : StT H a s) : StT H' a s := x.keep fun b xs q => e b _ q
theorem line_at {H : Hp} {as : List Addr} {s : Sta} (p : Paired (LineT H) as s) {i : Nat} {y : V} (e : (as.map V.ref)[i]? = some y) : ∃ b l, y = V.ref b ∧ s[i]? = some l ∧ LineT H b l ∧ as[i]? = some b := by
  rw [List.getElem?_map] at e
  cases q : as[i]? with
  | none => rw [q] at e; cases e
  | some b =>
    rw [q] at e
    obtain ⟨l, h1, h2⟩ := paired_get p q
    exact ⟨b, l, (Option.some.inj e).symm, h1, h2, rfl⟩
theorem ints_at {l : List Int} {j : Nat} {x : V} (e : (l.map V.int)[j]? = some x) : ∃ p, x = V.int p ∧ l[j]? = some p := by
  rw [List.getElem?_map] at e
  cases q : l[j]? with
  | none => rw [q] at e; cases e
  | some p => rw [q] at e; exact ⟨p, (Option.some.inj e).symm, rfl⟩

/-! ### rules within a comprehension's block: the written part said -/
section
variable {X : Cx} {K : PySem.W.Frag}
theorem op_inK (h : X.K = K) : OpR X (compareOp .In) (rIn K false) := by subst h; exact op_in_seq
theorem pi_tupK {tg l : Expr} {tl : TE} (h : X.K = K) (hl : PE X l tl) : PI X tg l (iTup K tl) := by subst h; exact pi_tup hl
theorem pg_tupK {es : List Expr} {k : Nat} {t : TGs} {n : Nat} {pos : Pos} (h : X.K = K) (hc : X.calm = true) (ht : PGs X es t) (hn : (assignEach es X.env).length = n := by rfl) (hst : (assignEach es X.env).findIdx? (·.1) = none := by rfl) :
    PG X (.Tuple es k pos) (gTup K n t) := by subst h; exact pg_tup hc ht hn hst
theorem call_tupleK (h : X.K = K) : CallR X (.type "tuple") (fun xs H Q => ∃ p ys, xs = [.ref p] ∧ ((SqL K H p ys ∧ ∀ l, H l = none → Q (.ref l) (upd H l (.tup ys))) ∨ (SqT K H p ys ∧ Q (.ref p) H))) := by subst h; exact call_tuple_of
theorem ix_listK (h : X.K = K) : IxR X (rIxL K) := by subst h; exact ix_list
end

section
variable {P : Program} {w : World} {K : PySem.W.Frag} {mg : Str → Option Value} {base : Heap}
/-! ### is_integer, is_in, is_list -/
theorem scInteger : FnScope ["value"] ["value"] (defScope sInteger) := ⟨rfl, rfl, rfl, by decide +kernel, rfl, by decide +kernel, by decide +kernel⟩
def spInteger : Sp := fun vs H Q _ => ∃ n : Int, vs = [.int n] ∧ Q (.bl true) H
theorem ok_integer {f : Addr} {fd : FuncData} (D : Dfn K mg "is_integer" sInteger ["value"] f fd) (T : Txt mg) : FnOk P w K mg base CX0 1 f fd ["value"] spInteger := by
  refine D.fn.ok scInteger (fun vs H Q E h => ?_) (fun cdv A outer s H vs Q E hr h => ?_)
  · obtain ⟨n, rfl, _⟩ := h
    rfl
  · obtain ⟨n, rfl, q⟩ := h
    refine ⟨_, pss_one (ps_ret (pe_and (pe_callB call_isi (by rfl) T.isinstance (by decide +kernel) (pa_cons (pv 0) (pa_cons (pe_bltn (v := .ty "int") (by rfl) T.int (by decide +kernel) rfl) pa_nil)))
      (pe_one (pe_not (pe_callB call_isi (by rfl) T.isinstance (by decide +kernel) (pa_cons (pv 0) (pa_cons (pe_bltn (v := .ty "bool") (by rfl) T.bool (by decide +kernel) rfl) pa_nil))))))), ?_⟩
    refine ⟨_, rfl, _, _, _, _, true, rfl, .ty "int", .base (.int n), kit_ty (by decide +kernel), true, rfl, iteT ?_⟩
    exact ⟨_, rfl, _, _, _, _, false, rfl, .ty "bool", .base (.int n), kit_ty (by decide +kernel), false, rfl, q⟩
theorem scIn : FnScope ["value", "least", "most"] ["value", "least", "most"] (defScope sIn) := ⟨rfl, rfl, rfl, by decide +kernel, rfl, by decide +kernel, by decide +kernel⟩
def spIn : Sp := fun vs H Q _ => ∃ n a b : Int, vs = [.int n, .int a, .int b] ∧ a ≤ n ∧ n ≤ b ∧ Q (.bl true) H
theorem ok_in {f f1 : Addr} {fd fd1 : FuncData} (D : Dfn K mg "is_in" sIn ["value", "least", "most"] f fd) (D1 : Dfn K mg "is_integer" sInteger ["value"] f1 fd1) (T : Txt mg) :
    FnOk P w K mg base CX0 2 f fd ["value", "least", "most"] spIn := by
  have G1 : FnOk P w K mg base CX0 1 f1 fd1 ["value"] spInteger := ok_integer D1 T
  refine D.fn.ok scIn (fun vs H Q E h => ?_) (fun cdv A outer s H vs Q E hr h => ?_)
  · obtain ⟨n, a, b, rfl, _⟩ := h
    rfl
  · obtain ⟨n, a, b, rfl, h1, h2, q⟩ := h
    refine ⟨_, pss_one (ps_ret (pe_and (pe_call G1 hr (by rfl) D1.at_ D1.fn.kp D1.bi .nil pass0 (pa_cons (pv 0) pa_nil)) (pe_one (pe_chain op_le op_le (pv 1) (pv 0) (pv 2))))), ?_⟩
    refine ⟨_, rfl, n, rfl, true, rfl, iteT ?_⟩
    refine ⟨_, rfl, _, rfl, a, n, rfl, rfl, true, bT h1, iteT ?_⟩
    refine ⟨_, rfl, n, b, rfl, rfl, ?_⟩
    show Q (V.bl (decide (n ≤ b))) H
    rw [decide_eq_true h2]
    exact q
theorem scList : FnScope ["value", "least", "most"] ["value", "least", "most"] (defScope sList) := ⟨rfl, rfl, rfl, by decide +kernel, rfl, by decide +kernel, by decide +kernel⟩
def spList : Sp := fun vs H Q _ => ∃ (t : Addr) (xs : List V) (a b : Int), vs = [.ref t, .int a, .int b] ∧ H t = some (.tup xs) ∧ a ≤ xs.length ∧ (xs.length : Int) ≤ b ∧ Q (.bl true) H
theorem ok_list {f : Addr} {fd : FuncData} (D : Dfn K mg "is_list" sList ["value", "least", "most"] f fd) (T : Txt mg) : FnOk P w K mg base CX0 1 f fd ["value", "least", "most"] spList := by
  refine D.fn.ok scList (fun vs H Q E h => ?_) (fun cdv A outer s H vs Q E hr h => ?_)
  · obtain ⟨t, xs, a, b, rfl, _⟩ := h
    rfl
  · obtain ⟨t, xs, a, b, rfl, ht, h1, h2, q⟩ := h
    refine ⟨_, pss_one (ps_ret (pe_and (pe_callB call_isi (by rfl) T.isinstance (by decide +kernel) (pa_cons (pv 0) (pa_cons (pe_bltn (v := .ty "tuple") (by rfl) T.tuple (by decide +kernel) rfl) pa_nil)))
      (pe_one (pe_chain op_le op_le (pv 1) (pe_callB call_len_seq (by rfl) T.len PySem.boot_len (pa_cons (pv 0) pa_nil)) (pv 2))))), ?_⟩
    refine ⟨_, rfl, _, _, _, _, true, rfl, .ty "tuple", .base (.tup ht), kit_ty (by decide +kernel), true, rfl, iteT ?_⟩
    refine ⟨_, rfl, _, rfl, t, xs, rfl, .inr (SqT.of ht), a, xs.length, rfl, rfl, true, bT h1, iteT ?_⟩
    refine ⟨_, rfl, _, b, rfl, rfl, ?_⟩
    show Q (V.bl (decide ((xs.length : Int) ≤ b))) H
    rw [decide_eq_true h2]
    exact q
/-! ### need_office -/
/-- an office at o -/
def OffT (H : Hp) (o : Addr) (n c : Nat) : Prop := H o = some (.tup [.int (n : Int), .int (c : Int)])
theorem OffT.same {H H' : Hp} (e : Same H H') {o : Addr} {n c : Nat} (x : OffT H o n c) : OffT H' o n c := e _ _ x
theorem scOffice : FnScope ["office"] ["office"] (defScope sOffice) := ⟨rfl, rfl, rfl, by decide +kernel, rfl, by decide +kernel, by decide +kernel⟩
def spOffice : Sp := fun vs H Q _ => ∃ (o : Addr) (n c : Nat), vs = [.ref o] ∧ OffT H o n c ∧ 1 ≤ n ∧ n ≤ 7 ∧ 1 ≤ c ∧ c ≤ 6 ∧ Q .non H
theorem ok_office {f f1 f2 f3 : Addr} {fd fd1 fd2 fd3 : FuncData} (D : Dfn K mg "need_office" sOffice ["office"] f fd) (D1 : Dfn K mg "is_integer" sInteger ["value"] f1 fd1) (D2 : Dfn K mg "is_in" sIn ["value", "least", "most"] f2 fd2)
    (D3 : Dfn K mg "is_list" sList ["value", "least", "most"] f3 fd3) (T : Txt mg) : FnOk P w K mg base CX0 3 f fd ["office"] spOffice := by
  have G2 : FnOk P w K mg base CX0 2 f2 fd2 ["value", "least", "most"] spIn := ok_in D2 D1 T
  have G3 : FnOk P w K mg base CX0 1 f3 fd3 ["value", "least", "most"] spList := ok_list D3 T
  obtain ⟨tp, mp⟩ := T.people
  obtain ⟨tc, mc⟩ := T.counters
  refine D.fn.ok scOffice (fun vs H Q E h => ?_) (fun cdv A outer s H vs Q E hr h => ?_)
  · obtain ⟨o, n, c, rfl, _⟩ := h
    rfl
  · obtain ⟨o, n, c, rfl, ho, h1, h2, h3, h4, q⟩ := h
    have hr1 : Room 1 _ := hr.mono (by decide)
    refine ⟨_, pss_one (ps_if (PW.pt (pw_or (pt_not (pt_val (pe_call G3 hr1 (by rfl) D3.at_ D3.fn.kp D3.bi .nil pass0 (pa_cons (pv 0) (pa_cons pe_int (pa_cons pe_int pa_nil))))))
      (pw_or (pt_not (pt_val (pe_call G2 hr (by rfl) D2.at_ D2.fn.kp D2.bi .nil pass0 (pa_cons (pe_ix ix_tup (pv 0) pe_int (fun _ _ => rfl)) (pa_cons pe_int (pa_cons (pe_glob (v := .int 7) (by rfl) mp ⟨_, rfl⟩) pa_nil))))))
      (pw_or1 (pt_not (pt_val (pe_call G2 hr (by rfl) D2.at_ D2.fn.kp D2.bi .nil pass0 (pa_cons (pe_ix ix_tup (pv 0) pe_int (fun _ _ => rfl)) (pa_cons pe_int (pa_cons (pe_glob (v := .int 6) (by rfl) mc ⟨_, rfl⟩) pa_nil)))))))))) (pss_one ps_never) pss_nil), ?_⟩
    refine ⟨_, rfl, o, _, 2, 2, rfl, ho, by show (2 : Int) ≤ 2; decide, by show (2 : Int) ≤ 2; decide, true, rfl, iteF ?_⟩
    refine ⟨_, rfl, o, _, 0, _, rfl, rfl, SqT.of ho, atI_nat (j := 0) rfl, _, _, _, rfl, by omega, by omega, true, rfl, iteF ?_⟩
    refine ⟨_, rfl, o, _, 1, _, rfl, rfl, SqT.of ho, atI_nat (j := 1) rfl, _, _, _, rfl, by omega, by omega, true, rfl, iteF ?_⟩
    exact q
/-! ### need_lines -/
structure Val (n c : Nat) (s : Sta) : Prop where
  len : s.length = c
  each : ∀ l ∈ s, l.length ≤ n
  are : ∀ p ∈ s.flatten, 0 ≤ p ∧ p ≤ (n : Int) - 1
  nodup : s.flatten.Nodup
  all : n ≤ s.flatten.length
def metOf (ps : List Int) : List (Key × V) := ps.map fun p => (Sum.inl p, V.bl true)
theorem met_none : ∀ {ps : List Int} {p : Int}, p ∉ ps → valV (metOf ps) (Sum.inl p) = none
  | [], _, _ => rfl
  | x :: r, p, h => by
    have e : ¬ ((Sum.inl x : Key) = Sum.inl p) := fun q => h (by rw [Sum.inl.inj q]; exact List.mem_cons_self)
    show valV ((Sum.inl x, V.bl true) :: metOf r) (Sum.inl p) = none
    rw [valV_neg (p := (Sum.inl x, V.bl true)) e]
    exact met_none fun m => h (List.mem_cons_of_mem _ m)
theorem met_put {ps : List Int} {p : Int} (h : p ∉ ps) : putK (metOf ps) (Sum.inl p) (V.bl true) = metOf (ps ++ [p]) := by
  rw [putK_new _ (met_none h)]
  unfold metOf
  rw [List.map_append]
  rfl
theorem met_len (ps : List Int) : (metOf ps).length = ps.length := by unfold metOf; rw [List.length_map]
end
end CL

namespace CL
open PySem PySem.Spec PyProof.Rows L2
section
variable {P : Program} {w : World} {K : PySem.W.Frag} {mg : Str → Option Value} {base : Heap}
theorem flat_take {s : Sta} {i : Nat} {l : List Int} (h : s[i]? = some l) : (s.take (i + 1)).flatten = (s.take i).flatten ++ l := by
  rw [List.take_add_one, h, List.flatten_append]
  simp
theorem take_snoc {l : List Int} {j : Nat} {p : Int} (h : l[j]? = some p) : l.take (j + 1) = l.take j ++ [p] := by
  rw [List.take_add_one, h]
  rfl
/-- the person at hand did not stand before -/
theorem not_before {s : Sta} {i j : Nat} {l : List Int} {p : Int} (hn : s.flatten.Nodup) (h : s[i]? = some l) (hj : l[j]? = some p) : p ∉ (s.take i).flatten ++ l.take j := by
  have e1 : s = s.take i ++ l :: s.drop (i + 1) := by
    have hlt := (List.getElem?_eq_some_iff.mp h).1
    have e := (List.getElem?_eq_some_iff.mp h).2
    rw [← e, List.getElem_cons_drop, List.take_append_drop]
  have e2 : l = l.take j ++ p :: l.drop (j + 1) := by
    have hlt := (List.getElem?_eq_some_iff.mp hj).1
    have e := (List.getElem?_eq_some_iff.mp hj).2
    rw [← e, List.getElem_cons_drop, List.take_append_drop]
  have e3 : s.flatten = ((s.take i).flatten ++ l.take j) ++ (p :: (l.drop (j + 1) ++ (s.drop (i + 1)).flatten)) := by
    conv => lhs; rw [e1, List.flatten_append, List.flatten_cons]; rw [e2]
    simp [List.append_assoc]
  rw [e3] at hn
  have := (List.nodup_append.mp hn).2.2
  intro hm
  exact this p hm p List.mem_cons_self rfl
theorem mem_flat {s : Sta} {i j : Nat} {l : List Int} {p : Int} (h : s[i]? = some l) (hj : l[j]? = some p) : p ∈ s.flatten :=
  List.mem_flatten.mpr ⟨l, List.mem_of_getElem? h, List.mem_of_getElem? hj⟩
theorem scLines : FnScope ["office", "state", "people", "counters", "met", "index", "line", "person"] ["office", "state"] (defScope sLines) := ⟨rfl, rfl, rfl, by decide +kernel, rfl, by decide +kernel, by decide +kernel⟩
def spLines : Sp := fun vs H Q _ => ∃ (o a : Addr) (n c : Nat) (s : Sta), vs = [.ref o, .ref a] ∧ OffT H o n c ∧ StT H a s ∧ Val n c s ∧ s.flatten.length ≤ 100 ∧ ∀ H', Same H H' → Q .non H'
theorem ok_lines {f f1 f2 f3 : Addr} {fd fd1 fd2 fd3 : FuncData} (D : Dfn K mg "need_lines" sLines ["office", "state"] f fd) (D1 : Dfn K mg "is_integer" sInteger ["value"] f1 fd1) (D2 : Dfn K mg "is_in" sIn ["value", "least", "most"] f2 fd2)
    (D3 : Dfn K mg "is_list" sList ["value", "least", "most"] f3 fd3) (T : Txt mg) : FnOk P w K mg base CX0 3 f fd ["office", "state"] spLines := by
  have G2 : FnOk P w K mg base CX0 2 f2 fd2 ["value", "least", "most"] spIn := ok_in D2 D1 T
  have G3 : FnOk P w K mg base CX0 1 f3 fd3 ["value", "least", "most"] spList := ok_list D3 T
  refine D.fn.ok scLines (fun vs H Q E h => ?_) (fun cdv A outer s H vs Q E hr h => ?_)
  · obtain ⟨o, a, n, c, s, rfl, _⟩ := h
    rfl
  · obtain ⟨o, a, n, c, st, rfl, ho, ha, va, hz, q⟩ := h
    have hr1 : Room 1 _ := hr.mono (by decide)
    have nd := scLines.nd
    refine ⟨_, pss_cons (ps_asg (pv 0) (pg_tup rfl (pgs_cons (pg_name (i := 2) nd rfl (.inl rfl)) (pgs_cons (pg_name (i := 3) nd rfl (.inl rfl)) pgs_nil))))
      (pss_cons (ps_if (pt_not (pt_val (pe_call G3 hr1 (by rfl) D3.at_ D3.fn.kp D3.bi .nil pass0 (pa_cons (pv 1) (pa_cons (pv 3) (pa_cons (pv 3) pa_nil)))))) (pss_one ps_never) pss_nil)
      (pss_cons (ps_set (i := 4) nd rfl (.inl rfl) pe_dnewK)
      (pss_cons (ps_for PassesOwn.never rfl (pi_enumT (by rfl) T.enumerate (pa_cons (pv 1) pa_nil)) (pg_tup rfl (pgs_cons (pg_name (i := 5) nd rfl (.inl rfl)) (pgs_cons (pg_name (i := 6) nd rfl (.inl rfl)) pgs_nil)))
        (pss_cons (ps_if (pt_not (pt_val (pe_call G3 hr1 (by rfl) D3.at_ D3.fn.kp D3.bi .nil pass0 (pa_cons (pv 6) (pa_cons pe_int (pa_cons (pv 2) pa_nil)))))) (pss_one ps_never) pss_nil)
        (pss_one (ps_for PassesOwn.never rfl (pi_tup (pv 6)) (pg_name (i := 7) nd rfl (.inl rfl))
          (pss_cons (ps_if (PW.pt (pw_or (pt_not (pt_val (pe_call G2 hr (by rfl) D2.at_ D2.fn.kp D2.bi .nil pass0 (pa_cons (pv 7) (pa_cons pe_int (pa_cons (pe_op op_sub (pv 2) pe_int) pa_nil))))))
            (pw_or1 (pt_cmp (pc_din (hu_of hr) (pv 7) (pv 4)))))) (pss_one ps_never) pss_nil)
          (pss_one (ps_dput (hu_of hr) (pv 4) (pv 7) pe_bl rfl)))))))
      (pss_one (ps_if (pt_cmpR op_lt (pe_callB call_lenD (by rfl) T.len PySem.boot_len (pa_cons (pv 4) pa_nil)) (pv 2) (nomark _)) (pss_one ps_never) pss_nil))))), ?_⟩
    refine ⟨_, rfl, o, _, rfl, SqT.of ho, rfl, _, _, rfl, _, _, rfl, rfl, ?_⟩
    obtain ⟨as, ha1, ha2⟩ := id ha
    have hl : (as.map V.ref).length = st.length := by rw [List.length_map, Paired.length ha2]
    refine ⟨_, rfl, _, rfl, _, rfl, a, _, _, _, rfl, ha1, by rw [hl, va.len]; exact Int.le_refl _, by rw [hl, va.len]; exact Int.le_refl _, true, rfl, iteF ?_⟩
    intro d hd
    have s1 : Same H (upd H d (.dK [])) := same_upd hd
    refine ⟨_, rfl, a, _, rfl, SqT.of (s1 _ _ ha1), ?_⟩
    refine for_it walk_enumT (fun i σ H' => ∃ x5 x6 x7, σ = [some (.ref o), some (.ref a), some (.int n), some (.int c), some (.ref d), x5, x6, x7] ∧ Same H H' ∧ H' d = some (.dK (metOf (st.take i).flatten)))
      ⟨none, none, none, rfl, s1, upd_same⟩ (fun i σ H' _ ⟨_, _, _, _, sm, _⟩ => SqT.of (sm _ _ ha1)) ?_ ?_
    · rintro i x σ H1 H2 hi ⟨x5, x6, x7, rfl, sm, hd1⟩ ⟨T0, y0, y, rfl, nT, rfl, e0, e1⟩
      obtain ⟨b, l, rfl, hl1, hl2, _⟩ := line_at ha2 e1
      have e0' : y0 = .int (i : Nat) := (Option.some.inj e0).symm
      subst e0'
      have smT : Same H (upd H1 T0 (.tup [.int (i : Nat), .ref b])) := sm.trans (same_upd nT)
      have ndT : d ≠ T0 := ne_of_none hd1 nT
      refine ⟨T0, _, rfl, SqT.of upd_same, rfl, _, _, rfl, _, _, rfl, rfl, ?_⟩
      have hll : l.length ≤ n := va.each l (List.mem_of_getElem? hl1)
      refine ⟨_, rfl, _, rfl, b, _, _, _, rfl, smT _ _ hl2, by omega, by rw [List.length_map]; omega, true, rfl, iteF ?_⟩
      refine ⟨_, rfl, b, rfl, ⟨_, SqT.of (smT _ _ hl2)⟩, ?_⟩
      refine for_tup (K := K) (a := b) (xs := l.map V.int) (fun j σ H' => ∃ x7, σ = [some (.ref o), some (.ref a), some (.int n), some (.int c), some (.ref d), some (.int (i : Nat)), some (.ref b), x7] ∧ Same H H' ∧ H' d = some (.dK (metOf ((st.take i).flatten ++ l.take j))))
        ⟨_, rfl, smT, by rw [upd_ne ndT, hd1, List.take_zero, List.append_nil]⟩ (fun j σ H' _ ⟨_, _, sm', _⟩ => SqT.of (sm' _ _ hl2)) ?_ ?_
      · rintro j x σ H3 hx ⟨z7, rfl, sm3, hd3⟩
        obtain ⟨p, rfl, hp⟩ := ints_at hx
        have hpf := va.are p (mem_flat hl1 hp)
        have hno := not_before va.nodup hl1 hp
        refine ⟨_, rfl, _, rfl, _, _, rfl, rfl, p, 0, (n : Int) - 1, rfl, hpf.1, hpf.2, true, rfl, iteF ?_⟩
        refine ⟨_, rfl, _, rfl, d, _, rfl, DGet.k (k := Sum.inl p) hd3, _, rfl, ?_⟩
        rw [met_none hno]
        refine iteF ?_
        have hlen : (metOf ((st.take i).flatten ++ l.take j)).length < sizeLine := by
          rw [met_len]
          refine small1000 ?_
          have h1 : (st.take i).flatten.length ≤ st.flatten.length := by
            conv => rhs; rw [← List.take_append_drop i st, List.flatten_append, List.length_append]
            exact Nat.le_add_right _ _
          rw [List.length_append, List.length_take]
          have h2 : l.length ≤ st.flatten.length := by
            have e := flat_take hl1
            have h3 : (st.take (i + 1)).flatten.length ≤ st.flatten.length := by
              conv => rhs; rw [← List.take_append_drop (i + 1) st, List.flatten_append, List.length_append]
              exact Nat.le_add_right _ _
            rw [e, List.length_append] at h3
            omega
          omega
        refine ⟨_, rfl, _, rfl, d, _, rfl, DPut.k (k := Sum.inl p) hd3 hlen, ?_⟩
        rw [met_put hno]
        refine ⟨_, rfl, fun b' o' e' => ?_, ?_⟩
        · have nb : b' ≠ d := ne_of_none e' hd
          rw [upd_ne nb]
          exact sm3 _ _ e'
        · rw [upd_same, take_snoc hp, List.append_assoc]
      · rintro σ H3 ⟨z7, rfl, sm3, hd3⟩
        refine ⟨_, _, _, rfl, sm3, ?_⟩
        rw [hd3, List.length_map, List.take_length, flat_take hl1]
    · rintro σ H1 ⟨x5, x6, x7, rfl, sm, hd1⟩
      refine ⟨_, rfl, d, _, rfl, hd1, _, rfl, _, _, rfl, rfl, _, rfl, ?_⟩
      have e : st.take (as.map V.ref).length = st := by rw [hl]; exact List.take_length
      rw [e, met_len, decide_eq_false (by have := va.all; omega)]
      exact iteF (q H1 sm)
end
end CL

namespace CL
open PySem PySem.Spec PyProof.Rows L2
section
variable {P : Program} {w : World} {K : PySem.W.Frag} {mg : Str → Option Value} {base : Heap}
/-! ### need_state -/
theorem scState : FnScope ["office", "state"] ["office", "state"] (defScope sState) := ⟨rfl, rfl, rfl, by decide +kernel, rfl, by decide +kernel, by decide +kernel⟩
def spState : Sp := fun vs H Q _ => ∃ (o a : Addr) (n c : Nat) (s : Sta), vs = [.ref o, .ref a] ∧ OffT H o n c ∧ 1 ≤ n ∧ n ≤ 7 ∧ 1 ≤ c ∧ c ≤ 6 ∧ StT H a s ∧ Val n c s ∧ s.flatten.length ≤ 100 ∧ ∀ H', Same H H' → Q .non H'
theorem ok_state {f f4 f5 : Addr} {fd fd4 fd5 : FuncData} (D : Dfn K mg "need_state" sState ["office", "state"] f fd) (D4 : Dfn K mg "need_office" sOffice ["office"] f4 fd4) (D5 : Dfn K mg "need_lines" sLines ["office", "state"] f5 fd5)
    (G4 : FnOk P w K mg base CX0 3 f4 fd4 ["office"] spOffice) (G5 : FnOk P w K mg base CX0 3 f5 fd5 ["office", "state"] spLines) : FnOk P w K mg base CX0 4 f fd ["office", "state"] spState := by
  refine D.fn.ok scState (fun vs H Q E h => ?_) (fun cdv A outer s H vs Q E hr h => ?_)
  · obtain ⟨o, a, n, c, s, rfl, _⟩ := h
    rfl
  · obtain ⟨o, a, n, c, st, rfl, ho, h1, h2, h3, h4, ha, va, hz, q⟩ := h
    refine ⟨_, pss_cons (ps_expr (pe_call G4 hr (by rfl) D4.at_ D4.fn.kp D4.bi .nil pass0 (pa_cons (pv 0) pa_nil)))
      (pss_one (ps_expr (pe_call G5 hr (by rfl) D5.at_ D5.fn.kp D5.bi .nil pass0 (pa_cons (pv 0) (pa_cons (pv 1) pa_nil))))), ?_⟩
    refine ⟨_, rfl, o, n, c, rfl, ho, h1, h2, h3, h4, ?_⟩
    refine ⟨_, rfl, _, rfl, o, a, n, c, st, rfl, ho, ha, va, hz, fun H' sm => ?_⟩
    exact q H' sm
/-! ### counter_of -/
theorem inV_ints (p : Int) : ∀ l : List Int, inV (.int p) (l.map V.int) = l.contains p
  | [] => rfl
  | x :: r => by
    have ih := inV_ints p r
    unfold inV at ih ⊢
    rw [List.map_cons, List.any_cons, ih, List.contains_cons]
    have e : eqV (V.int x) (V.int p) = (p == x) := by
      show (x == p) = (p == x)
      exact Bool.beq_comm
    rw [e]
theorem flat_ints : ∀ l : List Int, (l.map V.int).all flatV = true
  | [] => rfl
  | x :: r => by rw [List.map_cons, List.all_cons, flat_ints r]; rfl
theorem scCounter : FnScope ["state", "person", "counter", "line"] ["state", "person"] (defScope sCounter) := ⟨rfl, rfl, rfl, by decide +kernel, rfl, by decide +kernel, by decide +kernel⟩
def spCounter : Sp := fun vs H Q _ => ∃ (a : Addr) (p : Int) (s : Sta), vs = [.ref a, .int p] ∧ StT H a s ∧ s.length ≤ 50 ∧ stands s p = true ∧ ∀ H', Same H H' → Q (.int (ctr s p : Nat)) H'
theorem ok_counter {f : Addr} {fd : FuncData} (D : Dfn K mg "counter_of" sCounter ["state", "person"] f fd) (T : Txt mg) : FnOk P w K mg base CX0 1 f fd ["state", "person"] spCounter := by
  refine D.fn.ok scCounter (fun vs H Q E h => ?_) (fun cdv A outer s H vs Q E hr h => ?_)
  · obtain ⟨a, p, s, rfl, _⟩ := h
    rfl
  · obtain ⟨a, p, st, rfl, ha, hz, hp, q⟩ := h
    have nd := scCounter.nd
    refine ⟨_, pss_one (ps_ret (pe_ix ix_list (pe_lc (own := [("counter", 2), ("line", 3)]) rfl nd (pi_enumT (by rfl) T.enumerate (pa_cons (pv 0) pa_nil)) (blkOk_by (N := ["state", "person", "counter", "line"]) (sc := defScope sCounter) (by decide +kernel))
      (fun _ _ _ _ _ => pg_tupK (K := K) (n := 2) rfl rfl (pgs_cons (pg_name (i := 2) nd rfl (.inl rfl) (.inr rfl)) (pgs_cons (pg_name (i := 3) nd rfl (.inl rfl) (.inr rfl)) pgs_nil)))
      (fun _ _ _ _ _ => pts_one (pt_cmpR (op_inK (K := K) rfl) (pv 1) (pv 3) rfl)) (fun _ _ _ _ _ => pv 2)) pe_int (fun _ _ => rfl))), ?_⟩
    obtain ⟨as, ha1, ha2⟩ := id ha
    have hl : (as.map V.ref).length = st.length := by rw [List.length_map, Paired.length ha2]
    refine ⟨_, rfl, a, _, rfl, SqT.of ha1, fun D0 nD => ?_⟩
    refine lc_it walk_enumT (fun i H' => Same H H' ∧ H' D0 = some (.lst ((hitsFrom p 0 (st.take i)).map fun k => V.int (k : Nat)))) ⟨same_upd nD, upd_same⟩ (fun i H' _ h => SqT.of (h.1 _ _ ha1)) ?_ ?_
    · rintro i x H1 H2 hi ⟨sm, hd⟩ ⟨T0, y0, y, rfl, nT, rfl, e0, e1⟩
      obtain ⟨b, l, rfl, hl1, hl2, _⟩ := line_at ha2 e1
      have e0' : y0 = .int (i : Nat) := (Option.some.inj e0).symm
      subst e0'
      have smT : Same H (upd H1 T0 (.tup [.int (i : Nat), .ref b])) := sm.trans (same_upd nT)
      have ndT : D0 ≠ T0 := ne_of_none hd nT
      have hdT : (upd H1 T0 (.tup [.int (i : Nat), .ref b])) D0 = some (.lst ((hitsFrom p 0 (st.take i)).map fun k => V.int (k : Nat))) := by rw [upd_ne ndT]; exact hd
      have hls : (hitsFrom p 0 (st.take i)).length < sizeLine := by
        refine small1000 ?_
        have h1 := hits_len p (st.take i) 0
        rw [List.length_take] at h1
        omega
      refine ⟨T0, _, rfl, SqT.of upd_same, rfl, _, _, rfl, _, _, rfl, rfl, rfl, ?_⟩
      refine ⟨_, rfl, _, rfl, b, _, rfl, .inr (SqT.of (smT _ _ hl2)), rfl, flat_ints l, _, rfl, ?_⟩
      show if inV (.int p) (l.map V.int) = true then _ else _
      rw [inV_ints]
      refine ite2 (fun hc => ?_) (fun hc => ?_)
      · refine ⟨_, rfl, _, hdT, by rw [List.length_map]; exact hls, fun b' o' e' => ?_, ?_⟩
        · rw [upd_ne (ne_of_none e' nD)]
          exact smT _ _ e'
        · rw [upd_same, hits_take hl1, if_pos hc, List.map_append]
          rfl
      · refine ⟨smT, ?_⟩
        rw [hdT, hits_take hl1, if_neg hc, List.append_nil]
    · rintro H1 ⟨sm, hd⟩
      have e : st.take (as.map V.ref).length = st := by rw [hl]; exact List.take_length
      rw [e] at hd
      obtain ⟨r, er⟩ := stands_ctr hp
      rw [er] at hd
      exact ⟨D0, _, 0, .int (ctr st p : Nat), rfl, rfl, SqL.of hd, atI_nat (j := 0) rfl, q H1 sm⟩
/-! ### call_in -/
def asgVal : Stmt → Expr
  | .Assign _ v _ => v
  | _ => .Constant .none 0 ⟨0, 0, 0, 0⟩
def lcScope : Expr → Scope
  | .ListComp _ _ sc _ => sc
  | _ => { kind := .function, names := [], isGenerator := false, isCoroutine := false }
def scLc : Scope := lcScope (asgVal ((defBody sCall).getD 2 (.Pass ⟨0, 0, 0, 0⟩)))
theorem less_len (p : Int) (l : List Int) : (less p l).length ≤ l.length := List.length_filter_le _ _
theorem less_take {p : Int} {l : List Int} {j : Nat} {x : Int} (h : l[j]? = some x) : less p (l.take (j + 1)) = less p (l.take j) ++ if (!(x == p)) = true then [x] else [] := by
  have e : l.take (j + 1) = l.take j ++ [x] := by rw [List.take_add_one, h]; rfl
  unfold less
  rw [e, List.filter_append, List.filter_cons, List.filter_nil]
theorem paired_set {α β : Type} {F : α → β → Prop} {a : α} {b : β} (h : F a b) : ∀ {l : List α} {m : List β} (i : Nat), Paired F l m → Paired F (l.set i a) (m.set i b)
  | _, _, _, .nil => .nil
  | _, _, 0, .cons _ t => .cons h t
  | _, _, i + 1, .cons q t => .cons q (paired_set h i t)
theorem scCall : FnScope ["state", "person", "old", "new", "lines", "line", "one"] ["state", "person"] (defScope sCall) := ⟨rfl, rfl, rfl, by decide +kernel, rfl, by decide +kernel, by decide +kernel⟩
def spCall : Sp := fun vs H Q _ => ∃ (a : Addr) (p : Int) (s : Sta), vs = [.ref a, .int p] ∧ StT H a s ∧ small s = true ∧ stands s p = true ∧ ∀ H' b, Same H H' → StT H' b (callIn s p) → Q (.ref b) H'
theorem ok_call {f f1 : Addr} {fd fd1 : FuncData} (D : Dfn K mg "call_in" sCall ["state", "person"] f fd) (D1 : Dfn K mg "counter_of" sCounter ["state", "person"] f1 fd1) (T : Txt mg) : FnOk P w K mg base CX0 2 f fd ["state", "person"] spCall := by
  have G1 : FnOk P w K mg base CX0 1 f1 fd1 ["state", "person"] spCounter := ok_counter D1 T
  refine D.fn.ok scCall (fun vs H Q E h => ?_) (fun cdv A outer s H vs Q E hr h => ?_)
  · obtain ⟨a, p, s, rfl, _⟩ := h
    rfl
  · obtain ⟨a, p, st, rfl, ha, hz, hp, q⟩ := h
    obtain ⟨hz1, hz2⟩ := small_of hz
    have nd := scCall.nd
    refine ⟨_, pss_cons (ps_set (i := 2) nd rfl (.inl rfl) (pe_call G1 hr (by rfl) D1.at_ D1.fn.kp D1.bi .nil pass0 (pa_cons (pv 0) (pa_cons (pv 1) pa_nil))))
      (pss_cons (ps_set (i := 3) nd rfl (.inl rfl) (pe_op op_mod (pe_op op_add (pv 2) pe_int) (pe_callB call_len_seq (by rfl) T.len PySem.boot_len (pa_cons (pv 0) pa_nil))))
      (pss_cons (ps_setLc (i := 4) (own := [("line", 5)]) rfl nd rfl rfl (sw_true rfl rfl rfl (by decide +kernel)) (pi_tup (pv 0)) (blkOk_by (N := ["state", "person", "old", "new", "lines", "line", "one"]) (sc := defScope sCall) (by decide +kernel))
          (fun _ _ _ _ _ => pg_name (i := 5) nd rfl (.inl rfl) (.inr rfl)) (fun _ _ _ _ _ => pts_nil)
          (fun _ _ _ _ _ => pe_callTy (call_tupleK (K := K) rfl) (by rfl) T.tuple (by decide +kernel) (pa_cons (pe_lc (own := [("one", 6)]) rfl nd (pi_tupK (K := K) rfl (pv 5))
            (blkOk_by (N := ["state", "person", "old", "new", "lines", "line", "one"]) (sc := relS scLc (defScope sCall)) (by decide +kernel))
            (fun _ _ _ _ _ => pg_name (i := 6) nd rfl (.inl rfl) (.inr rfl)) (fun _ _ _ _ _ => pts_one (pt_cmpR op_ne (pv 6) (pv 1) (nomark _))) (fun _ _ _ _ _ => pv 6)) pa_nil)))
      (pss_cons (ps_asg (pe_tup (StX.pa_star (pe_ix ix_list (pv 4) (pv 3) (fun _ _ => rfl)) (pa_cons (pv 1) pa_nil))) (pg_sub (pv 4) (pv 3) set_list))
      (pss_one (ps_ret (pe_callTy call_tuple_of (by rfl) T.tuple (by decide +kernel) (pa_cons (pv 4) pa_nil))))))), ?_⟩
    obtain ⟨as, ha1, ha2⟩ := id ha
    have hl : (as.map V.ref).length = st.length := by rw [List.length_map, Paired.length ha2]
    have hpos := stands_len hp
    -- old, new
    refine ⟨_, rfl, _, rfl, a, p, st, rfl, ha, hz1, hp, fun H1 sm1 => ?_⟩
    have ha1' : H1 a = some (.tup (as.map V.ref)) := sm1 _ _ ha1
    refine ⟨_, rfl, _, _, rfl, rfl, _, rfl, a, _, rfl, .inr (SqT.of ha1'), _, _, rfl, rfl, by rw [hl]; omega, ?_⟩
    -- lines = [..]
    refine ⟨_, rfl, a, rfl, ⟨_, SqT.of ha1'⟩, fun D0 nD => lc_tup (K := K) (a := a) (xs := as.map V.ref)
      (fun i H' => Same H1 H' ∧ ∃ bs : List Addr, H' D0 = some (.lst (bs.map V.ref)) ∧ Paired (LineT H') bs ((st.take i).map (less p))) ⟨same_upd nD, [], upd_same, .nil⟩ (fun i H' _ h => SqT.of (h.1 _ _ ha1')) ?_ ?_⟩
    · rintro i x H2 hx ⟨sm2, bs, hD, hP⟩
      obtain ⟨b, l, rfl, hl1, hl2, _⟩ := line_at ha2 hx
      have hlb : LineT H2 b l := sm2 _ _ (sm1 _ _ hl2)
      refine ⟨rfl, _, rfl, b, rfl, ⟨_, SqT.of hlb⟩, fun D1 nD1 => lc_tup (K := K) (a := b) (xs := l.map V.int)
        (fun j H' => Same H2 H' ∧ H' D1 = some (.lst ((less p (l.take j)).map V.int))) ⟨same_upd nD1, upd_same⟩ (fun j H' _ h => SqT.of (h.1 _ _ hlb)) ?_ ?_⟩
      · rintro j x H3 hx ⟨sm3, hd1⟩
        obtain ⟨y, rfl, hy⟩ := ints_at hx
        refine ⟨rfl, _, rfl, _, rfl, rfl, _, rfl, ?_⟩
        rw [dec_int]
        have hlen : (less p (l.take j)).length < sizeLine := by
          refine small1000 ?_
          have h1 := less_len p (l.take j)
          rw [List.length_take] at h1
          have := hz2 l (List.mem_of_getElem? hl1)
          omega
        refine ite2 (fun hc => ?_) (fun hc => ?_)
        · refine ⟨_, rfl, _, hd1, by rw [List.length_map]; exact hlen, fun b' o' e' => ?_, ?_⟩
          · rw [upd_ne (ne_of_none e' nD1)]
            exact sm3 _ _ e'
          · rw [upd_same, less_take hy, if_pos hc, List.map_append]
            rfl
        · refine ⟨sm3, ?_⟩
          rw [hd1, less_take hy, if_neg hc, List.append_nil]
      · rintro H3 ⟨sm3, hd1⟩
        rw [List.length_map, List.take_length] at hd1
        refine ⟨D1, _, rfl, .inl ⟨SqL.of hd1, fun t nt => ?_⟩⟩
        have smt : Same H3 (upd H3 t (.tup ((less p l).map V.int))) := same_upd nt
        have hD3 : H3 D0 = some (.lst (bs.map V.ref)) := sm3 _ _ hD
        have hbl : bs.length ≤ 50 := by
          rw [Paired.length hP, List.length_map, List.length_take]
          omega
        refine ⟨_, smt _ _ hD3, by rw [List.length_map]; exact small1000 (by omega), fun b' o' e' => ?_, bs ++ [t], ?_, ?_⟩
        · rw [upd_ne (ne_of_none e' nD)]
          exact smt _ _ (sm3 _ _ (sm2 _ _ e'))
        · rw [upd_same, List.map_append]
          rfl
        · have e : (st.take (i + 1)).map (less p) = (st.take i).map (less p) ++ [less p l] := by rw [List.take_add_one, hl1, List.map_append]; rfl
          rw [e]
          have up : ∀ b' xs, (upd H3 t (.tup ((less p l).map V.int))) b' = some (.tup xs) → (upd (upd H3 t (.tup ((less p l).map V.int))) D0 (.lst (bs.map V.ref ++ [.ref t]))) b' = some (.tup xs) := fun b' xs e' => by
            rw [upd_ne (ne_of e' (smt _ _ hD3) (fun z => nomatch z))]
            exact e'
          exact Paired.snoc (Paired.mapP hP fun b' l' q' => up _ _ (smt _ _ (sm3 _ _ q'))) (up _ _ upd_same)
    · rintro H2 ⟨sm2, bs, hD, hP⟩
      have e : st.take (as.map V.ref).length = st := by rw [hl]; exact List.take_length
      rw [e] at hP
      have hbl : bs.length = st.length := by rw [Paired.length hP, List.length_map]
      -- lines[new] = (*lines[new], person)
      have hk : (ctr st p + 1) % st.length < st.length := Nat.mod_lt _ hpos
      have ek : ((ctr st p : Nat) : Int) + 1 = ((ctr st p + 1 : Nat) : Int) := by omega
      have ek2 : (((ctr st p : Nat) : Int) + 1) % ((as.map V.ref).length : Nat) = (((ctr st p + 1) % st.length : Nat) : Int) := by rw [hl, ek]; exact (Int.natCast_emod _ _).symm
      obtain ⟨b, hb⟩ : ∃ b, bs[(ctr st p + 1) % st.length]? = some b := ⟨bs[(ctr st p + 1) % st.length]'(by rw [hbl]; exact hk), List.getElem?_eq_getElem _⟩
      obtain ⟨l, hl1, hl2⟩ := paired_get hP hb
      have hat : atI (bs.map V.ref) ((((ctr st p : Nat) : Int) + 1) % ((as.map V.ref).length : Nat)) = some (.ref b) := by
        rw [ek2]
        refine atI_nat ?_
        rw [List.getElem?_map, hb]
        rfl
      have hix : ixN (bs.map V.ref).length ((((ctr st p : Nat) : Int) + 1) % ((as.map V.ref).length : Nat)) = some ((ctr st p + 1) % st.length) := by
        rw [ek2, List.length_map, hbl]
        unfold ixN
        rw [if_pos (by omega), if_pos (by omega)]
        exact congrArg some (Int.toNat_natCast _)
      have hll : l.length ≤ 50 := by
        rw [List.getElem?_map] at hl1
        cases q1 : st[(ctr st p + 1) % st.length]? with
        | none => rw [q1] at hl1; cases hl1
        | some l0 =>
          rw [q1] at hl1
          have e1 : less p l0 = l := Option.some.inj hl1
          have h1 := less_len p l0
          have h2 := hz2 l0 (List.mem_of_getElem? q1)
          rw [← e1]
          omega
      refine ⟨_, rfl, _, rfl, D0, _, _, _, rfl, rfl, SqL.of hD, hat, b, _, rfl, .inl (SqT.of hl2), _, rfl, ?_, fun t nt => ?_⟩
      · show (l.map V.int ++ [V.int p]).length ≤ sizeLine
        rw [List.length_append, List.length_map]
        exact Nat.le_of_lt (small1000 (by show l.length + 1 ≤ 1000; omega))
      have smt : Same H2 (upd H2 t (.tup (l.map V.int ++ [.int p]))) := same_upd nt
      refine ⟨_, rfl, _, rfl, D0, _, _, _, rfl, rfl, smt _ _ hD, hix, ?_⟩
      -- return tuple(lines)
      refine ⟨_, rfl, D0, _, rfl, .inl ⟨SqL.of upd_same, fun r nr => ?_⟩⟩
      have smr : Same (upd (upd H2 t (.tup (l.map V.int ++ [.int p]))) D0 (.lst ((bs.map V.ref).set ((ctr st p + 1) % st.length) (.ref t)))) _ := same_upd (o := .tup ((bs.map V.ref).set ((ctr st p + 1) % st.length) (.ref t))) nr
      have up : ∀ b' xs, (upd H2 t (.tup (l.map V.int ++ [.int p]))) b' = some (.tup xs) → (upd (upd H2 t (.tup (l.map V.int ++ [.int p]))) D0 (.lst ((bs.map V.ref).set ((ctr st p + 1) % st.length) (.ref t)))) b' = some (.tup xs) := fun b' xs e' => by
        rw [upd_ne (ne_of e' (smt _ _ hD) (fun z => nomatch z))]
        exact e'
      refine q _ r (fun b' o' e' => ?_) ⟨bs.set ((ctr st p + 1) % st.length) t, ?_, ?_⟩
      · refine smr _ _ ?_
        rw [upd_ne (ne_of_none (sm1 _ _ e') nD)]
        exact smt _ _ (sm2 _ _ (sm1 _ _ e'))
      · rw [upd_same, List.map_set]
      · have el : (st.map (less p)).getD ((ctr st p + 1) % st.length) [] = l := by rw [List.getD_eq_getElem?_getD, hl1]; rfl
        unfold callIn
        rw [el]
        refine paired_set ?_ _ (Paired.mapP hP fun b' l' q' => smr _ _ (up _ _ (smt _ _ q')))
        show LineT _ t (l ++ [p])
        unfold LineT
        rw [List.map_append]
        exact smr _ _ (up _ _ upd_same)
end
end CL

namespace CL
open PySem PySem.Spec PyProof.Rows L2
section
variable {P : Program} {w : World} {K : PySem.W.Frag} {mg : Str → Option Value} {base : Heap}
theorem hu10 {A : Around} {k : Nat} (hr : Room k A) : A.units + 10 < cLine := by have := hr.un; omega
theorem hu64 {A : Around} {k : Nat} (hr : Room k A) : A.units + 64 < cLine := by have := hr.un; omega
/-! ### fits_in -/
theorem call_lenK {X : Cx} (h : X.K = K) : CallR X (.builtin "len") (fun xs H Q => ∃ p ys, xs = [.ref p] ∧ (SqL K H p ys ∨ SqT K H p ys) ∧ Q (.int ys.length) H) := by subst h; exact call_len_seq
theorem scFits : FnScope ["state", "limit", "line"] ["state", "limit"] (defScope sFits) := ⟨rfl, rfl, rfl, by decide +kernel, rfl, by decide +kernel, by decide +kernel⟩
def spFits : Sp := fun vs H Q _ => ∃ (a : Addr) (m : Nat) (s : Sta), vs = [.ref a, .int (m : Int)] ∧ StT H a s ∧ s.length ≤ 50 ∧ ∀ H', Same H H' → Q (.bl (fits s m)) H'
theorem ok_fits {f : Addr} {fd : FuncData} (D : Dfn K mg "fits_in" sFits ["state", "limit"] f fd) (T : Txt mg) : FnOk P w K mg base CX0 1 f fd ["state", "limit"] spFits := by
  refine D.fn.ok scFits (fun vs H Q E h => ?_) (fun cdv A outer s H vs Q E hr h => ?_)
  · obtain ⟨a, m, s, rfl, _⟩ := h
    rfl
  · obtain ⟨a, m, st, rfl, ha, hz, q⟩ := h
    have nd := scFits.nd
    refine ⟨_, pss_one (ps_ret (pe_callB (cr_all rfl) (by rfl) T.all (by decide +kernel) (pa_cons (pe_lc (own := [("line", 2)]) rfl nd (pi_tup (pv 0)) (blkOk_by (N := ["state", "limit", "line"]) (sc := defScope sFits) (by decide +kernel))
      (fun _ _ _ _ _ => pg_name (i := 2) nd rfl (.inl rfl) (.inr rfl)) (fun _ _ _ _ _ => pts_nil) (fun _ _ _ _ _ => pe_cmpR op_le (pe_callB (call_lenK (K := K) rfl) (by rfl) T.len PySem.boot_len (pa_cons (pv 2) pa_nil)) (pv 1) (nomark _))) pa_nil))), ?_⟩
    obtain ⟨as, ha1, ha2⟩ := id ha
    have hl : (as.map V.ref).length = st.length := by rw [List.length_map, Paired.length ha2]
    refine ⟨_, rfl, a, rfl, ⟨_, SqT.of ha1⟩, fun D0 nD => lc_tup (K := K) (a := a) (xs := as.map V.ref)
      (fun i H' => Same H H' ∧ H' D0 = some (.lst (((st.take i).map fun l => decide (l.length ≤ m)).map V.bl))) ⟨same_upd nD, upd_same⟩ (fun i H' _ h => SqT.of (h.1 _ _ ha1)) ?_ ?_⟩
    · rintro i x H2 hx ⟨sm2, hD⟩
      obtain ⟨b, l, rfl, hl1, hl2, _⟩ := line_at ha2 hx
      have hi : i < st.length := (List.getElem?_eq_some_iff.mp hl1).1
      refine ⟨rfl, _, rfl, b, _, rfl, .inr (SqT.of (sm2 _ _ hl2)), _, rfl, _, _, rfl, rfl, _, hD, ?_, fun b' o' e' => ?_, ?_⟩
      · rw [List.length_map, List.length_map, List.length_take]
        exact small1000 (by omega)
      · rw [upd_ne (ne_of_none e' nD)]
        exact sm2 _ _ e'
      · rw [upd_same, List.take_add_one, hl1, List.map_append, List.map_append]
        refine congrArg some (congrArg HO.lst (congrArg (_ ++ ·) ?_))
        show [V.bl (decide (((l.map V.int).length : Int) ≤ (m : Int)))] = [V.bl (decide (l.length ≤ m))]
        rw [List.length_map]
        by_cases c : l.length ≤ m
        · rw [decide_eq_true c, decide_eq_true (show ((l.length : Nat) : Int) ≤ (m : Int) by omega)]
        · rw [decide_eq_false c, decide_eq_false (show ¬ ((l.length : Nat) : Int) ≤ (m : Int) by omega)]
    · rintro H2 ⟨sm2, hD⟩
      have e : st.take (as.map V.ref).length = st := by rw [hl]; exact List.take_length
      rw [e] at hD
      refine ⟨D0, _, rfl, SqL.of hD, ?_⟩
      have e2 : (st.map fun l => decide (l.length ≤ m)).all id = fits st m := by
        unfold fits
        rw [List.all_map]
        rfl
      show Q (V.bl ((st.map fun l => decide (l.length ≤ m)).all id)) H2
      rw [e2]
      exact q H2 sm2
/-! ### reached_within -/
def tabV (t : Tab) : List (Sta × V) := t.map fun x => (x.1, V.int x.2)
theorem tabV_val (t : Tab) (s : Sta) : valV (tabV t) s = (lookT t s).map V.int := by
  induction t with
  | nil => rfl
  | cons x r ih =>
    by_cases e : x.1 = s
    · have e1 : valV (tabV (x :: r)) s = some (V.int x.2) := valV_pos (p := (x.1, V.int x.2)) e
      rw [e1]
      unfold lookT
      rw [List.find?_cons, decide_eq_true e]
      rfl
    · have e1 : valV (tabV (x :: r)) s = valV (tabV r) s := valV_neg (p := (x.1, V.int x.2)) e
      rw [e1, ih]
      unfold lookT
      rw [List.find?_cons, decide_eq_false e]
theorem tabV_len (t : Tab) : (tabV t).length = t.length := by unfold tabV; rw [List.length_map]
theorem tabV_put {t : Tab} {s : Sta} {m : Int} (h : lookT t s = none) : putK (tabV t) s (V.int m) = tabV (t ++ [(s, m)]) := by
  rw [putK_new _ (by rw [tabV_val, h]; rfl)]
  unfold tabV
  rw [List.map_append]
  rfl
theorem lay_lines : ∀ s : Sta, PyData.canLayAll0 (s.map fun l => PyData.tuple (l.map .int)) = true
  | [] => rfl
  | l :: s => by
    have e : ∀ l : List Int, PyData.canLayAll0 (l.map PyData.int) = true := by
      intro l
      induction l with
      | nil => rfl
      | cons x r ih => rw [List.map_cons, PyData.canLayAll0, ih]; rfl
    show PyData.canLayAll0 (PyData.tuple (l.map .int) :: s.map fun l => PyData.tuple (l.map .int)) = true
    rw [PyData.canLayAll0, PyData.canLay0, e, lay_lines s]
    rfl
theorem enc_shaped (s : List Sta) : SeqAt.shaped (.list (s.map encS)) = true := by
  have h1 : PyData.canLayAll0 (s.map encS) = true := by
    induction s with
    | nil => rfl
    | cons x r ih =>
      rw [List.map_cons, PyData.canLayAll0, ih]
      unfold encS
      rw [PyData.canLay0, lay_lines]
      rfl
  have h2 : PyData.depthAll (s.map encS) ≤ 2 := by
    induction s with
    | nil => simp [PyData.depthAll]
    | cons x r ih =>
      rw [List.map_cons, PyData.depthAll]
      have h3 := depth_enc_lines x
      have h4 : (encS x).depth ≤ 2 := by
        unfold encS
        rw [PyData.depth]
        omega
      have ih := ih (by
        rw [List.map_cons, PyData.canLayAll0, Bool.and_eq_true] at h1
        exact h1.2)
      omega
  unfold SeqAt.shaped
  rw [Bool.and_eq_true, decide_eq_true_eq, PyData.canLay0, PyData.depth]
  exact ⟨h1, by omega⟩
theorem dp_states {H : Hp} : ∀ {as : List Addr} {ss : List Sta}, Paired (StT H) as ss → DpAll K H (as.map V.ref) (ss.map encS)
  | [], _, p => by cases p; exact .nil
  | a :: as, _, p => by
    cases p with
    | cons h t => exact .cons (StT.dp h) (dp_states t)
theorem states_at {H : Hp} {as : List Addr} {ss : List Sta} (p : Paired (StT H) as ss) {i : Nat} {y : V} (e : (as.map V.ref)[i]? = some y) : ∃ b s, y = V.ref b ∧ ss[i]? = some s ∧ StT H b s := by
  rw [List.getElem?_map] at e
  cases q : as[i]? with
  | none => rw [q] at e; cases e
  | some b =>
    rw [q] at e
    obtain ⟨s, h1, h2⟩ := paired_get p q
    exact ⟨b, s, (Option.some.inj e).symm, h1, h2⟩
theorem guard_of {n : Nat} {last : List Sta} (h : guard n last = true) {s : Sta} (hs : s ∈ last) : small s = true ∧ ∀ p, p < n → stands s (p : Int) = true := by
  unfold guard at h
  have h1 := List.all_eq_true.mp h s hs
  rw [Bool.and_eq_true] at h1
  exact ⟨h1.1, fun p hp => List.all_eq_true.mp h1.2 p (List.mem_range.mpr hp)⟩
theorem keep_upd {H : Hp} {x : Addr} {o u : HO} (h : H x = some u) (nt : ∀ xs, HO.tup xs ≠ u) : ∀ b xs, H b = some (.tup xs) → upd H x o b = some (.tup xs) := fun b xs e => by
  rw [upd_ne (ne_of e h (nt xs))]
  exact e
theorem same_put {H H' : Hp} {x : Addr} {o : HO} (sm : Same H H') (h : H x = none) : Same H (upd H' x o) := fun b u e => by
  rw [upd_ne (ne_of_none e h)]
  exact sm _ _ e
theorem paired_keep {H H' : Hp} (k : ∀ b xs, H b = some (.tup xs) → H' b = some (.tup xs)) {as : List Addr} {ss : List Sta} (p : Paired (StT H) as ss) : Paired (StT H') as ss := Paired.mapP p fun _ _ z => z.keep k
/-- within the while loop: the dict at d, the list of the last ones at L, the fresh ones at F -/
def RS (P : Program) (w : World) (H0 H' : Hp) (d L F : Addr) (ls : List Addr) (last : List Sta) (A : Tab × List Sta) : Prop :=
  Same H0 H' ∧ H' L = some (.lst (ls.map V.ref)) ∧ Paired (StT H') ls last ∧ ∃ (φ : Heap → Prop) (fr : List Addr), H' d = some (.ext φ) ∧ DAt P w H' φ d (tabV A.1) ∧ H' F = some (.lst (fr.map V.ref)) ∧ Paired (StT H') fr A.2
theorem RS.same {H0 H1 H2 : Hp} {d L F : Addr} {ls : List Addr} {last : List Sta} {A : Tab × List Sta} (x : RS P w H0 H1 d L F ls last A) (e : Same H1 H2) : RS P w H0 H2 d L F ls last A := by
  obtain ⟨h1, h2, h3, φ, fr, h4, h5, h6, h7⟩ := x
  exact ⟨h1.trans e, e _ _ h2, paired_keep (fun b xs q => e _ _ q) h3, φ, fr, e _ _ h4, h5.keep fun b xs q => e _ _ q, e _ _ h6, paired_keep (fun b xs q => e _ _ q) h7⟩
theorem scReach : FnScope ["office", "state", "limit", "barred", "found", "last", "many", "fresh", "here", "person", "there"] ["office", "state", "limit", "barred"] (defScope sReach) := ⟨rfl, rfl, rfl, by decide +kernel, rfl, by decide +kernel, by decide +kernel⟩
def spReach (P : Program) (w : World) : Sp := fun vs H Q _ => ∃ (o a b : Addr) (n c limit fuel : Nat) (s : Sta) (r : Tab), vs = [.ref o, .ref a, .int (limit : Int), .ref b] ∧ OffT H o n c ∧ n ≤ 7 ∧ StT H a s ∧ H b = some (.tup []) ∧ reach n limit fuel [(s, 0)] [s] 0 = some r ∧
  ∀ H' d φ, Same H H' → H d = none → H' d = some (.ext φ) → DAt P w H' φ d (tabV r) → Q (.ref d) H'
theorem ok_reach {f f1 f2 f3 : Addr} {fd fd1 fd2 fd3 : FuncData} (D : Dfn K mg "reached_within" sReach ["office", "state", "limit", "barred"] f fd) (D1 : Dfn K mg "counter_of" sCounter ["state", "person"] f1 fd1) (D2 : Dfn K mg "call_in" sCall ["state", "person"] f2 fd2)
    (D3 : Dfn K mg "fits_in" sFits ["state", "limit"] f3 fd3) (T : Txt mg) : FnOk P w K mg base CX0 3 f fd ["office", "state", "limit", "barred"] (spReach P w) := by
  have G2 : FnOk P w K mg base CX0 2 f2 fd2 ["state", "person"] spCall := ok_call D2 D1 T
  have G3 : FnOk P w K mg base CX0 1 f3 fd3 ["state", "limit"] spFits := ok_fits D3 T
  obtain ⟨tS, mS⟩ := T.states
  refine D.fn.ok scReach (fun vs H Q E h => ?_) (fun cdv A outer s H vs Q E hr h => ?_)
  · obtain ⟨o, a, b, n, c, limit, fuel, s, r, rfl, _⟩ := h
    rfl
  · obtain ⟨o, a, b, n, c, limit, fuel, st, r, rfl, ho, hn7, ha, hb, hre, q⟩ := h
    have nd := scReach.nd
    have hr1 : Room 1 _ := hr.mono (by decide)
    refine ⟨_, pss_cons (ps_par3 (i := 4) (j := 5) (l := 6) rfl nd rfl rfl rfl (by decide) (by decide) (by decide) rfl rfl rfl (pa_cons (pe_dispS (hu10 hr) (pv 1) pe_int) (pa_cons (pe_lst (pa_cons (pv 1) pa_nil)) (pa_cons pe_int pa_nil))) rfl)
      (pss_cons (ps_while PassesOwn.never (pt_cmpR (op_neD (hu64 hr)) (pv 5) (pe_lst pa_nil) (nomark _))
        (pss_cons (ps_aug (i := 6) nd rfl (.inl rfl) pe_int ip_add)
        (pss_cons (ps_set (i := 7) nd rfl (.inl rfl) (pe_lst pa_nil))
        (pss_cons (ps_for PassesOwn.never rfl (pi_list (pv 5)) (pg_name (i := 8) nd rfl (.inl rfl))
          (pss_one (ps_for PassesOwn.never rfl (pi_range1 (by rfl) T.range (pa_cons (pe_ix ix_tup (pv 0) pe_int (fun _ _ => rfl)) pa_nil)) (pg_name (i := 9) nd rfl (.inl rfl))
            (pss_cons (ps_set (i := 10) nd rfl (.inl rfl) (pe_call G2 hr (by rfl) D2.at_ D2.fn.kp D2.bi .nil pass0 (pa_cons (pv 8) (pa_cons (pv 9) pa_nil))))
            (pss_one (ps_if (PW.pt (pw_and (pt_cmpR op_notIn_seq (pv 9) (pv 3) rfl) (pw_and (pt_cmp (pc_dnotinS (hu10 hr) (pv 10) (pv 4))) (pw_and1 (pt_val (pe_call G3 hr1 (by rfl) D3.at_ D3.fn.kp D3.bi .nil pass0 (pa_cons (pv 10) (pa_cons (pv 2) pa_nil))))))))
              (pss_cons (ps_dputS (hu10 hr) (pv 4) (pv 10) (pv 6) rfl)
              (pss_one (ps_expr (pe_bm PySem.F.plainAttrs_list PySem.F.slot_list_append PySem.F.type_list_append mt_append (pv 7) (pa_cons (pv 10) pa_nil))))) pss_nil))))))
        (pss_cons (ps_if (pt_cmpR op_gt (pe_callB call_lenS (by rfl) T.len PySem.boot_len (pa_cons (pv 4) pa_nil)) (pe_glob (v := .int 20000) (by rfl) mS ⟨_, rfl⟩) (nomark _)) (pss_one ps_never) pss_nil)
        (pss_one (ps_set (i := 5) nd rfl (.inl rfl) (pv 7))))))))
      (pss_one (ps_ret (pv 4)))), ?_⟩
    -- found, last, many = {state: 0}, [state], 0
    intro d hd φ0 da0
    refine ⟨_, rfl, _, a, st, rfl, ha.same (same_upd hd), upd_same, fun φ1 da1 => ?_⟩
    rw [upd_upd] at da1 ⊢
    refine ⟨_, rfl, by show 1 ≤ sizeLine; decide, fun L nL => ?_⟩
    have smd : Same H (upd H d (.ext φ1)) := same_upd hd
    have smL : Same (upd H d (.ext φ1)) (upd (upd H d (.ext φ1)) L (.lst [.ref a])) := same_upd nL
    refine ⟨_, _, _, rfl, ?_⟩
    -- while last != []
    refine ⟨fun m σ H' => ∃ (L : Addr) (φ : Heap → Prop) (t : Tab) (ls : List Addr) (last : List Sta) (many : Int) (x7 x8 x9 x10 : Option V), σ = [some (.ref o), some (.ref a), some (.int (limit : Int)), some (.ref b), some (.ref d), some (.ref L), some (.int many), x7, x8, x9, x10] ∧
      Same H H' ∧ H' d = some (.ext φ) ∧ DAt P w H' φ d (tabV t) ∧ H' L = some (.lst (ls.map V.ref)) ∧ Paired (StT H') ls last ∧ reach n limit m t last many = some r,
      ⟨fuel, L, φ1, [(st, 0)], [a], [st], 0, none, none, none, none, rfl, smd.trans smL, smL _ _ upd_same, da1.keep fun b' xs q' => smL _ _ q', upd_same, .cons (ha.same (smd.trans smL)) .nil, hre⟩, fun m σ H1 hW => ?_⟩
    obtain ⟨L, φ, t, ls, last, many, x7, x8, x9, x10, rfl, sm, hd1, da, hL, pL, hr0⟩ := hW
    refine ⟨_, rfl, Nat.zero_le _, fun e0 ne0 => ?_⟩
    have sme : Same H1 (upd H1 e0 (.lst [])) := same_upd ne0
    refine ⟨.list (last.map encS), .list [], .lst (SqL.of (sme _ _ hL)) (dp_states (paired_keep (fun b' xs q' => sme _ _ q') pL)), .lst (SqL.of upd_same) .nil, enc_shaped last, rfl, _, rfl, ?_⟩
    cases m with
    | zero => cases (show (none : Option Tab) = some r from hr0)
    | succ m =>
    cases last with
    | nil =>
      have er : t = r := Option.some.inj hr0
      subst er
      refine iteF ?_
      exact ⟨_, rfl, q _ d φ (sm.trans sme) hd (sme _ _ hd1) (da.keep fun b' xs q' => sme _ _ q')⟩
    | cons x rest =>
      have hbt : (!PyData.eqv (.list ((x :: rest).map encS)) (.list [])) = true := by
        rw [PyData.eqv, List.map_cons, PyData.eqvAll]
        rfl
      rw [hbt]
      refine iteT ?_
      have hg : guard n (x :: rest) = true ∧ ((x :: rest).foldl (turnS n limit (many + 1)) (t, [])).1.length ≤ 20000 ∧ reach n limit m ((x :: rest).foldl (turnS n limit (many + 1)) (t, [])).1 ((x :: rest).foldl (turnS n limit (many + 1)) (t, [])).2 (many + 1) = some r := by
        rw [reach] at hr0
        by_cases c : (guard n (x :: rest) && decide (((x :: rest).foldl (turnS n limit (many + 1)) (t, [])).1.length ≤ 20000)) = true
        · rw [if_pos c] at hr0
          rw [Bool.and_eq_true, decide_eq_true_eq] at c
          exact ⟨c.1, c.2, hr0⟩
        · rw [if_neg c] at hr0
          cases hr0
      obtain ⟨g1, g2, g3⟩ := hg
      generalize hlast : x :: rest = last at g1 g2 g3 pL ⊢
      refine ⟨_, fun σ' H' hN => ⟨m, Nat.lt_succ_self m, hN⟩, ?_⟩
      refine ⟨_, rfl, many, 1, rfl, rfl, ?_⟩
      refine ⟨Nat.zero_le _, fun F nF => ?_⟩
      have smF : Same (upd H1 e0 (.lst [])) (upd (upd H1 e0 (.lst [])) F (.lst [])) := same_upd nF
      have nFL : L ≠ F := ne_of_none (sme _ _ hL) nF
      have nFd : d ≠ F := ne_of_none (sme _ _ hd1) nF
      have hF0 : H F = none := (sm.trans sme).free nF
      refine ⟨_, rfl, L, rfl, ⟨_, SqL.of (smF _ _ (sme _ _ hL))⟩, for_list (K := K) (a := L) (xs := ls.map V.ref)
        (fun i σ H' => ∃ x8 x9 x10, σ = [some (.ref o), some (.ref a), some (.int (limit : Int)), some (.ref b), some (.ref d), some (.ref L), some (.int (many + 1)), some (.ref F), x8, x9, x10] ∧ RS P w H H' d L F ls last ((last.take i).foldl (turnS n limit (many + 1)) (t, [])))
        ⟨_, _, _, rfl, (sm.trans sme).trans smF, smF _ _ (sme _ _ hL), paired_keep (fun b' xs q' => smF _ _ (sme _ _ q')) pL, φ, [], smF _ _ (sme _ _ hd1), da.keep fun b' xs q' => smF _ _ (sme _ _ q'), upd_same, .nil⟩
        (fun i σ H' _ ⟨_, _, _, _, z⟩ => SqL.of z.2.1) ?_ ?_⟩
      · rintro i y σ H2 hy ⟨z8, z9, z10, rfl, rs⟩
        obtain ⟨hb1, here, rfl, hh, _⟩ := states_at rs.2.2.1 hy
        obtain ⟨gs, gp⟩ := guard_of g1 (List.mem_of_getElem? hh)
        refine ⟨_, rfl, o, _, 0, _, rfl, rfl, SqT.of (rs.1 _ _ ho), atI_nat (j := 0) rfl, (n : Int), rfl, by omega, by omega, ?_⟩
        rw [Int.toNat_natCast]
        refine for_range (lo := 0) (n := n) (fun j σ H' => ∃ x9 x10, σ = [some (.ref o), some (.ref a), some (.int (limit : Int)), some (.ref b), some (.ref d), some (.ref L), some (.int (many + 1)), some (.ref F), some (.ref hb1), x9, x10] ∧
          RS P w H H' d L F ls last ((List.range j).foldl (turnP limit (many + 1) here) ((last.take i).foldl (turnS n limit (many + 1)) (t, [])))) ⟨_, _, rfl, rs⟩ ?_ ?_
        · rintro j σ H3 hj ⟨w9, w10, rfl, rs3⟩
          rw [show (0 : Int) + (j : Nat) = (j : Nat) by omega]
          obtain ⟨_, here', e1, hh', hst⟩ := states_at rs3.2.2.1 hy
          obtain rfl : here' = here := Option.some.inj (hh'.symm.trans hh)
          cases e1
          have hbnd := part_len n limit (many + 1) hh (t, []) hj
          refine ⟨_, rfl, _, rfl, hb1, (j : Nat), here', rfl, hst, gs, gp j hj, fun H4 u sm4 hu => ?_⟩
          have rs4 := rs3.same sm4
          refine ⟨_, rfl, _, rfl, b, [], rfl, .inr (SqT.of (rs4.1 _ _ hb)), rfl, rfl, true, rfl, iteT ?_⟩
          obtain ⟨k1, k2, k3, φ4, fr, k4, k5, k6, k7⟩ := id rs4
          refine ⟨_, rfl, _, rfl, d, u, φ4, _, _, rfl, rfl, .inl k4, k5, hu, _, rfl, ?_⟩
          rw [tabV_val]
          have efold := foldl_range (turnP limit (many + 1) here') ((last.take i).foldl (turnS n limit (many + 1)) (t, [])) j
          generalize hA : (List.range j).foldl (turnP limit (many + 1) here') ((last.take i).foldl (turnS n limit (many + 1)) (t, [])) = A at hbnd rs4 k5 k7 efold ⊢
          rw [efold]
          cases hlk : lookT A.1 (callIn here' (j : Nat)) with
          | some v =>
            refine iteF (iteF ?_)
            have e2 : turnP limit (many + 1) here' A j = A := by
              unfold turnP
              rw [hlk]
              rfl
            rw [e2]
            exact ⟨_, _, rfl, rs4⟩
          | none =>
            refine iteT ?_
            refine ⟨_, rfl, _, rfl, u, limit, _, rfl, hu, by rw [callIn_len]; exact (small_of gs).1, fun H5 sm5 => ?_⟩
            obtain ⟨k1, k2, k3, φ5, fr, k4, k5, k6, k7⟩ := id (rs4.same sm5)
            refine ⟨_, rfl, ite2 (fun hc => ?_) (fun hc => ?_)⟩
            · have e2 : turnP limit (many + 1) here' A j = (A.1 ++ [(callIn here' (j : Nat), many + 1)], A.2 ++ [callIn here' (j : Nat)]) := by
                unfold turnP
                rw [hlk, hc]
                rfl
              rw [e2] at hbnd ⊢
              have hb2 : A.1.length + 1 ≤ 20000 := by
                refine Nat.le_trans ?_ g2
                rw [List.length_append] at hbnd
                exact hbnd
              refine ⟨_, rfl, _, rfl, _, rfl, d, u, φ5, _, _, rfl, rfl, k4, k5, hu.same sm5, by rw [tabV_len, sizeLine_eq]; omega, fun φ' da' => ?_⟩
              rw [tabV_put hlk] at da'
              have kd := keep_upd (o := .ext φ') k4 (fun xs z => nomatch z)
              have hF5 : (upd H5 d (.ext φ')) F = some (.lst (fr.map V.ref)) := by rw [upd_ne nFd.symm]; exact k6
              have hfl : fr.length ≤ A.1.length := by
                rw [Paired.length k7]
                have h1 := (foldS_len n limit (many + 1) (last.take i) (t, [])).2 (Nat.zero_le _)
                have h2 := (foldP_len limit (many + 1) here' (List.range j) ((last.take i).foldl (turnS n limit (many + 1)) (t, []))).2 h1
                rw [hA] at h2
                exact h2
              have kF := keep_upd (o := .lst (fr.map V.ref ++ [.ref u])) hF5 (fun xs z => nomatch z)
              refine ⟨_, rfl, .inl ⟨rfl, _, SqL.of hF5⟩, _, rfl, F, _, _, rfl, rfl, hF5, by rw [List.length_map, sizeLine_eq]; omega, _, _, rfl, same_put (same_put k1 hd) hF0, ?_, ?_, φ', fr ++ [u], ?_, ?_, ?_, ?_⟩
              · rw [upd_ne nFL, upd_ne (ne_of k2 k4 (fun z => nomatch z))]
                exact k2
              · exact paired_keep (fun b' xs q' => kF _ _ (kd _ _ q')) k3
              · rw [upd_ne nFd, upd_same]
              · exact da'.keep kF
              · rw [upd_same, List.map_append]
                rfl
              · exact Paired.snoc (paired_keep (fun b' xs q' => kF _ _ (kd _ _ q')) k7) ((hu.same sm5).keep fun b' xs q' => kF _ _ (kd _ _ q'))
            · have e2 : turnP limit (many + 1) here' A j = A := by
                unfold turnP
                rw [hlk]
                have hc' : fits (callIn here' (j : Nat)) limit = false := by simpa using hc
                rw [hc']
                rfl
              rw [e2]
              exact ⟨_, _, rfl, rs4.same sm5⟩
        · rintro σ H3 ⟨w9, w10, rfl, rs3⟩
          refine ⟨_, _, _, rfl, ?_⟩
          rw [foldl_take (turnS n limit (many + 1)) (t, []) hh]
          exact rs3
      · rintro σ H2 ⟨z8, z9, z10, rfl, rs⟩
        have e : last.take (ls.map V.ref).length = last := by rw [List.length_map, Paired.length pL]; exact List.take_length
        rw [e] at rs
        obtain ⟨k1, k2, k3, φ4, fr, k4, k5, k6, k7⟩ := rs
        refine ⟨_, rfl, d, φ4, _, rfl, .inl k4, k5, _, _, rfl, rfl, _, rfl, ?_⟩
        rw [tabV_len, decide_eq_false (by omega)]
        refine iteF ?_
        exact ⟨_, rfl, F, φ4, _, fr, _, many + 1, _, _, _, _, rfl, k1, k4, k5, k6, k7, g3⟩
end
end CL

namespace CL
open PySem PySem.Spec PyProof.Rows L2
section
variable {P : Program} {w : World} {K : PySem.W.Frag} {mg : Str → Option Value} {base : Heap}
theorem hu20 {A : Around} {k : Nat} (hr : Room k A) : A.units + 20 < cLine := by have := hr.un; omega
/-! ### a tuple of one, repeated -/
def rRepE : R2 := fun x y H Q => ∃ (l : Addr) (k : Nat) (e : V), x = .ref l ∧ y = .int (k : Int) ∧ H l = some (.tup [e]) ∧ 1 ≤ k ∧ k ≤ 1000 ∧ ∀ p H', Same H H' → H' p = some (.tup (List.replicate k e)) → Q (.ref p) H'
theorem op_repE {X : Cx} : OpR X (binaryOp .Mult) rRepE := by
  intro pins s σ H x y v u Q I rx ry h
  obtain ⟨l, k, e, ex, ey, hl, h1, h2, q⟩ := h
  refine op_repA pins s σ H x y v u Q I rx ry ⟨l, k, [e], ex, ey, SqT.of hl, ?_⟩
  by_cases c : k = 1
  · subst c
    exact .inl ⟨rfl, q l H (Same.refl H) hl⟩
  · refine .inr ⟨(fun z => nomatch z), by omega, by omega, by show 1 ≤ 1000; decide, fun p np => q p _ (same_upd np) ?_⟩
    rw [upd_same, Int.toNat_natCast]
    have e1 : ∀ m : Nat, (List.replicate m [e]).flatten = List.replicate m e := by
      intro m
      induction m with
      | zero => rfl
      | succ m ih => rw [List.replicate_succ, List.flatten_cons, ih]; rfl
    rw [e1]
theorem paired_rep {α β : Type} {F : α → β → Prop} {a : α} {b : β} (h : F a b) : ∀ m : Nat, Paired F (List.replicate m a) (List.replicate m b)
  | 0 => .nil
  | m + 1 => .cons h (paired_rep h m)
/-! ### slices of tuples, whole or in part -/
def rSlU : V → Option Int → Option Int → Hp → VK → Prop := fun x lo hi H Q => ∃ a xs, x = .ref a ∧ H a = some (.tup xs) ∧ ∀ p H', Same H H' → H' p = some (.tup (cutV xs lo hi)) → Q (.ref p) H'
theorem sl_tupU {X : Cx} : SlR X rSlU := by
  intro pins s σ H x v vl vu lo hi sl Q I rx hs pl pu q
  obtain ⟨a, xs, ex, ha, q⟩ := q
  refine sl_tupA pins s σ H x v vl vu lo hi sl Q I rx hs pl pu ⟨a, xs, ex, SqT.of ha, fun ⟨h1, h2⟩ => q a H (Same.refl H) ?_, fun _ p np => q p _ (same_upd np) upd_same⟩
  rw [ha]
  unfold cutV
  rw [h1, h2, List.drop_zero, Nat.sub_zero, List.take_length]
theorem cut_take {xs : List V} {k : Nat} (h : k ≤ xs.length) : cutV xs none (some (k : Int)) = xs.take k := by
  unfold cutV
  rw [HT.sIx_none, HT.sIx_nat, List.drop_zero, Nat.sub_zero, Nat.min_eq_left h]
theorem cut_drop {xs : List V} {k : Nat} (h : k ≤ xs.length) : cutV xs (some (k : Int)) none = xs.drop k := by
  unfold cutV
  rw [HT.sIx_none, HT.sIx_nat, Nat.min_eq_left h]
  refine List.take_of_length_le ?_
  rw [List.length_drop]
  exact Nat.le_refl _
theorem paired_take {α β : Type} {F : α → β → Prop} : ∀ {l : List α} {m : List β} (i : Nat), Paired F l m → Paired F (l.take i) (m.take i)
  | _, _, 0, _ => .nil
  | _, _, _ + 1, .nil => .nil
  | _, _, i + 1, .cons q t => .cons q (paired_take i t)
theorem paired_drop {α β : Type} {F : α → β → Prop} : ∀ {l : List α} {m : List β} (i : Nat), Paired F l m → Paired F (l.drop i) (m.drop i)
  | _, _, 0, h => h
  | _, _, _ + 1, .nil => .nil
  | _, _, i + 1, .cons _ t => paired_drop i t
theorem paired_app {α β : Type} {F : α → β → Prop} : ∀ {l l' : List α} {m m' : List β}, Paired F l m → Paired F l' m' → Paired F (l ++ l') (m ++ m')
  | _, _, _, _, .nil, h => h
  | _, _, _, _, .cons q t, h => .cons q (paired_app t h)
/-! ### a dict whose values are True -/
def keysV (d : List Sta) : List (Sta × V) := d.map fun s => (s, V.bl true)
theorem keysV_len (d : List Sta) : (keysV d).length = d.length := by unfold keysV; rw [List.length_map]
theorem keysV_any (s : Sta) : ∀ d : List Sta, ((keysV d).any fun kv => decide (kv.1 = s)) = d.contains s
  | [] => rfl
  | x :: r => by
    have ih := keysV_any s r
    show ((decide (x = s)) || ((keysV r).any fun kv => decide (kv.1 = s))) = _
    rw [ih, List.contains_cons]
    have e : decide (x = s) = (s == x) := by
      by_cases c : x = s
      · rw [decide_eq_true c, c, beq_self_eq_true]
      · rw [decide_eq_false c]
        exact (beq_eq_false_iff_ne.mpr fun z => c z.symm).symm
    rw [e]
theorem keysV_put (d : List Sta) (s : Sta) : putK (keysV d) s (V.bl true) = keysV (putS d s) := by
  unfold putK putS
  rw [keysV_any]
  by_cases c : d.contains s = true
  · rw [if_pos c, if_pos c]
    unfold keysV
    rw [List.map_map]
    refine List.map_congr_left fun x _ => ?_
    show (if x = s then (x, V.bl true) else (x, V.bl true)) = (x, V.bl true)
    split <;> rfl
  · rw [if_neg c, if_neg c]
    unfold keysV
    rw [List.map_append]
    rfl
theorem keysV_at {d : List Sta} {i : Nat} {k : Sta} {v : V} (h : (keysV d)[i]? = some (k, v)) : d[i]? = some k := by
  unfold keysV at h
  rw [List.getElem?_map] at h
  cases q : d[i]? with
  | none => rw [q] at h; cases h
  | some x =>
    rw [q] at h
    have e := Option.some.inj h
    rw [(Prod.mk.inj e).1]
theorem paired_keys {H : Hp} : ∀ {d : List Sta} {bs : List Addr}, Paired (fun (kv : Sta × V) (b : Addr) => StT H b kv.1) (keysV d) bs → Paired (StT H) bs d
  | [], _, p => by cases p; exact .nil
  | x :: r, _, p => by
    have p' : Paired (fun (kv : Sta × V) (b : Addr) => StT H b kv.1) ((x, V.bl true) :: keysV r) _ := p
    cases p' with
    | cons h t => exact .cons h (paired_keys t)
/-! ### all_states -/
/-- the tuples stand -/
def KTu (H H' : Hp) : Prop := ∀ b xs, H b = some (.tup xs) → H' b = some (.tup xs)
theorem KTu.refl (H : Hp) : KTu H H := fun _ _ e => e
theorem KTu.trans {H H1 H2 : Hp} (a : KTu H H1) (b : KTu H1 H2) : KTu H H2 := fun c xs e => b c xs (a c xs e)
theorem ktu_of {H H' : Hp} (e : Same H H') : KTu H H' := fun b xs q => e _ _ q
theorem line_kept {H H' : Hp} (k : KTu H H') {as : List Addr} {s : Sta} (p : Paired (LineT H) as s) : Paired (LineT H') as s := Paired.mapP p fun _ _ z => k _ _ z
/-- within the loops: the locked dict at fd, the growing one at ld -/
def RB (P : Program) (w : World) (H0 H' : Hp) (fd ld : Addr) (od : Obj) (φ : Heap → Prop) (f d : List Sta) : Prop :=
  Same H0 H' ∧ H' fd = some (.frz od (.ext φ)) ∧ DAt P w H' φ fd (keysV f) ∧ ∃ ψ, H' ld = some (.ext ψ) ∧ DAt P w H' ψ ld (keysV d)
theorem RB.same {H0 H1 H2 : Hp} {fd ld : Addr} {od : Obj} {φ : Heap → Prop} {f d : List Sta} (x : RB P w H0 H1 fd ld od φ f d) (e : Same H1 H2) : RB P w H0 H2 fd ld od φ f d := by
  obtain ⟨h1, h2, h3, ψ, h4, h5⟩ := x
  exact ⟨h1.trans e, e _ _ h2, h3.keep fun b xs q => e _ _ q, ψ, e _ _ h4, h5.keep fun b xs q => e _ _ q⟩
theorem scAll : FnScope ["office", "people", "counters", "found", "person", "later", "state", "counter", "line", "place", "longer", "lines"] ["office"] (defScope sAll) := ⟨rfl, rfl, rfl, by decide +kernel, rfl, by decide +kernel, by decide +kernel⟩
def spAll (P : Program) (w : World) : Sp := fun vs H Q _ => ∃ (o : Addr) (n c : Nat), vs = [.ref o] ∧ OffT H o n c ∧ n ≤ 7 ∧ 1 ≤ c ∧ c ≤ 6 ∧ layOk n c = true ∧ (∀ s ∈ lay n c, s ≠ []) ∧ (lay n c).length ≤ 20000 ∧
  ∀ H' p as ss, Same H H' → Paired (StT H') as ss → ss.Perm (lay n c) → H' p = some (.lst (as.map V.ref)) → Q (.ref p) H'
theorem ok_all {f : Addr} {fd : FuncData} (D : Dfn K mg "all_states" sAll ["office"] f fd) (T : Txt mg) : FnOk P w K mg base CX0 1 f fd ["office"] (spAll P w) := by
  refine D.fn.ok scAll (fun vs H Q E h => ?_) (fun cdv A outer s H vs Q E hr h => ?_)
  · obtain ⟨o, n, c, rfl, _⟩ := h
    rfl
  · obtain ⟨o, n, c, rfl, ho, hn7, hc1, hc6, hok, hne, hbig, q⟩ := h
    have nd := scAll.nd
    refine ⟨_, pss_cons (ps_asg (pv 0) (pg_tup rfl (pgs_cons (pg_name (i := 1) nd rfl (.inl rfl)) (pgs_cons (pg_name (i := 2) nd rfl (.inl rfl)) pgs_nil))))
      (pss_cons (ps_set (i := 3) nd rfl (.inl rfl) (pe_dispS (hu10 hr) (pe_op op_repE (pe_tup (pa_cons (pe_tup pa_nil) pa_nil)) (pv 2)) pe_bl))
      (pss_cons (ps_for PassesOwn.never rfl (pi_range1 (by rfl) T.range (pa_cons (pv 1) pa_nil)) (pg_name (i := 4) nd rfl (.inl rfl))
        (pss_cons (ps_set (i := 5) nd rfl (.inl rfl) pe_dnewS)
        (pss_cons (ps_lock (ps_for PassesOwn.never rfl (pi_keysN (pv 3)) (pg_name (i := 6) nd rfl (.inl rfl))
          (pss_one (ps_for PassesOwn.never rfl (pi_enumT (by rfl) T.enumerate (pa_cons (pv 6) pa_nil)) (pg_tup rfl (pgs_cons (pg_name (i := 7) nd rfl (.inl rfl)) (pgs_cons (pg_name (i := 8) nd rfl (.inl rfl)) pgs_nil)))
            (pss_one (ps_for PassesOwn.never rfl (pi_range1 (by rfl) T.range (pa_cons (pe_op op_add (pe_callB call_len_seq (by rfl) T.len PySem.boot_len (pa_cons (pv 8) pa_nil)) pe_int) pa_nil)) (pg_name (i := 9) nd rfl (.inl rfl))
              (pss_cons (ps_set (i := 10) nd rfl (.inl rfl) (pe_tup (StX.pa_star (pe_slice sl_tupU (pv 8) po_none (po_some (pv 9))) (pa_cons (pv 4) (StX.pa_star (pe_slice sl_tupU (pv 8) (po_some (pv 9)) po_none) pa_nil)))))
              (pss_cons (ps_set (i := 11) nd rfl (.inl rfl) (pe_tup (StX.pa_star (pe_slice sl_tupU (pv 6) po_none (po_some (pv 7))) (pa_cons (pv 10) (StX.pa_star (pe_slice sl_tupU (pv 6) (po_some (pe_op op_add (pv 7) pe_int)) po_none) pa_nil)))))
              (pss_one (ps_dputS (hu10 hr) (pv 5) (pv 11) pe_bl rfl))))))))))
        (pss_one (ps_set (i := 3) nd rfl (.inl rfl) (pv 5))))))
      (pss_one (ps_ret (pe_callB (cr_sortedS' (hu20 hr)) (by rfl) T.sorted (by decide +kernel) (pa_cons (pe_callTy (call_listS rfl) (by rfl) T.list (by decide +kernel) (pa_cons (pv 3) pa_nil)) pa_nil)))))), ?_⟩
    -- people, counters = office
    refine ⟨_, rfl, o, _, rfl, SqT.of ho, rfl, _, _, rfl, _, _, rfl, rfl, ?_⟩
    -- found = {((),) * counters: True}
    intro fd hfd φ0 da0
    have sm0 : Same H (upd H fd (.ext φ0)) := same_upd hfd
    refine ⟨Nat.zero_le _, fun e ne => ⟨by show 1 ≤ sizeLine; decide, fun t nt => ⟨_, rfl, t, c, .ref e, rfl, rfl, upd_same, hc1, by omega, fun p H1 sm1 hp => ?_⟩⟩⟩
    have sme : Same (upd H fd (.ext φ0)) (upd (upd H fd (.ext φ0)) e (.tup [])) := same_upd ne
    have smt : Same (upd (upd H fd (.ext φ0)) e (.tup [])) (upd (upd (upd H fd (.ext φ0)) e (.tup [])) t (.tup [.ref e])) := same_upd nt
    have hst : StT H1 p (List.replicate c []) := ⟨List.replicate c e, by rw [hp, List.map_replicate], paired_rep (show LineT H1 e [] from sm1 _ _ (smt _ _ upd_same)) c⟩
    have hfd1 : H1 fd = some (.ext φ0) := sm1 _ _ (smt _ _ (sme _ _ upd_same))
    have smA : Same H H1 := ((sm0.trans sme).trans smt).trans sm1
    refine ⟨_, p, _, rfl, hst, hfd1, fun φ1 da1 => ?_⟩
    -- for person in range(people)
    refine ⟨_, rfl, (n : Int), rfl, by omega, by omega, ?_⟩
    rw [Int.toNat_natCast]
    refine for_range (lo := 0) (n := n) (fun k σ H' => ∃ (fd : Addr) (φ : Heap → Prop) (x4 x5 x6 x7 x8 x9 x10 x11 : Option V), σ = [some (.ref o), some (.int (n : Int)), some (.int (c : Int)), some (.ref fd), x4, x5, x6, x7, x8, x9, x10, x11] ∧
      Same H H' ∧ H fd = none ∧ H' fd = some (.ext φ) ∧ DAt P w H' φ fd (keysV (lay k c))) ⟨fd, φ1, none, none, none, none, none, none, none, none, rfl, same_put smA hfd, hfd, upd_same, da1⟩ ?_ ?_
    · rintro k σ H2 hk ⟨fd, φ, x4, x5, x6, x7, x8, x9, x10, x11, rfl, sm2, hfd0, hfd2, da2⟩
      rw [show (0 : Int) + (k : Nat) = (k : Nat) by omega]
      have hokk := List.all_eq_true.mp hok k (List.mem_range.mpr hk)
      rw [Bool.and_eq_true, decide_eq_true_eq] at hokk
      obtain ⟨hsm, hlen⟩ := hokk
      rw [lay_succ] at hlen ⊢
      generalize hf : lay k c = f at da2 hsm hlen ⊢
      -- later = {}
      intro ld ψ0 hld dal
      have smL : Same H2 (upd H2 ld (.ext ψ0)) := same_upd hld
      have nfl : fd ≠ ld := ne_of_none hfd2 hld
      have hld0 : H ld = none := sm2.free hld
      have hfdL : (upd H2 ld (.ext ψ0)) fd = some (.ext φ) := smL _ _ hfd2
      -- for state in found
      refine ⟨fd, .ext φ, hfdL, trivial, fun od => ?_⟩
      have kL : KTu (upd H2 ld (.ext ψ0)) (upd (upd H2 ld (.ext ψ0)) fd (.frz od (.ext φ))) := keep_upd hfdL (fun xs z => nomatch z)
      refine ⟨_, rfl, fd, od, φ, _, rfl, upd_same, (da2.keep fun b xs z => kL _ _ (smL _ _ z)), ?_⟩
      refine for_it walk_keysN (fun x σ H' => ∃ x6 x7 x8 x9 x10 x11, σ = [some (.ref o), some (.int (n : Int)), some (.int (c : Int)), some (.ref fd), some (.int (k : Nat)), some (.ref ld), x6, x7, x8, x9, x10, x11] ∧
        RB P w H H' fd ld od φ f ((f.take x).foldl (layS (k : Int)) [])) ⟨_, _, _, _, _, _, rfl, same_put (sm2.trans smL) hfd0, upd_same, da2.keep fun b xs z => kL _ _ (smL _ _ z), ψ0, by rw [upd_ne nfl.symm, upd_same], dal.keep fun b xs z => kL _ _ z⟩
        (fun x σ H' _ ⟨_, _, _, _, _, _, _, z⟩ => ⟨z.2.1, z.2.2.1⟩) ?_ ?_
      · rintro x y σ H3 H3' hx ⟨y6, y7, y8, y9, y10, y11, rfl, rb⟩ ⟨rfl, s0, v0, qa, hkv, rfl, hq⟩
        have hs : f[x]? = some s0 := keysV_at hkv
        have hsmall := small_of (List.all_eq_true.mp hsm s0 (List.mem_of_getElem? hs))
        obtain ⟨as, ha1, ha2⟩ := id hq
        have hal : as.length = s0.length := Paired.length ha2
        have hl : (as.map V.ref).length = s0.length := by rw [List.length_map, hal]
        refine ⟨_, rfl, qa, _, rfl, SqT.of ha1, ?_⟩
        refine for_it walk_enumT (fun i σ H' => ∃ x7 x8 x9 x10 x11, σ = [some (.ref o), some (.int (n : Int)), some (.int (c : Int)), some (.ref fd), some (.int (k : Nat)), some (.ref ld), some (.ref qa), x7, x8, x9, x10, x11] ∧ KTu H3' H' ∧
          RB P w H H' fd ld od φ f ((List.range i).foldl (layC (k : Int) s0) ((f.take x).foldl (layS (k : Int)) []))) ⟨_, _, _, _, _, rfl, KTu.refl _, rb⟩
          (fun i σ H' _ ⟨_, _, _, _, _, _, z, _⟩ => SqT.of (z _ _ ha1)) ?_ ?_
        · rintro i y σ H4 H5 hi ⟨z7, z8, z9, z10, z11, rfl, kt4, rb4⟩ ⟨T0, y0, y, rfl, nT, rfl, e0, e1⟩
          obtain ⟨b, l, rfl, hl1, hl2, hb⟩ := line_at ha2 e1
          have e0' : y0 = .int (i : Nat) := (Option.some.inj e0).symm
          subst e0'
          have hil : i < s0.length := by rw [← hl]; exact hi
          have egl : s0.getD i [] = l := by rw [List.getD_eq_getElem?_getD, hl1]; rfl
          have smT : Same H4 (upd H4 T0 (.tup [.int (i : Nat), .ref b])) := same_upd nT
          have rb5 := rb4.same smT
          have kt5 : KTu H3' (upd H4 T0 (.tup [.int (i : Nat), .ref b])) := kt4.trans (ktu_of smT)
          refine ⟨T0, _, rfl, SqT.of upd_same, rfl, _, _, rfl, _, _, rfl, rfl, ?_⟩
          refine ⟨_, rfl, b, _, rfl, .inr (SqT.of (kt5 _ _ hl2)), _, _, rfl, rfl, _, rfl, ?_, ?_, ?_⟩
          · omega
          · have := hsmall.2 l (List.mem_of_getElem? hl1)
            rw [List.length_map]
            omega
          have en : ((((l.map V.int).length : Nat) : Int) + 1).toNat = l.length + 1 := by rw [List.length_map]; omega
          show ∃ W, _
          rw [en]
          generalize hH5 : upd H4 T0 (.tup [.int (i : Nat), .ref b]) = H5 at rb5 kt5 ⊢
          refine for_range (lo := 0) (n := l.length + 1) (fun j σ H' => ∃ x9 x10 x11, σ = [some (.ref o), some (.int (n : Int)), some (.int (c : Int)), some (.ref fd), some (.int (k : Nat)), some (.ref ld), some (.ref qa), some (.int (i : Nat)), some (.ref b), x9, x10, x11] ∧ KTu H5 H' ∧
            RB P w H H' fd ld od φ f ((List.range j).foldl (layI (k : Int) s0 i) ((List.range i).foldl (layC (k : Int) s0) ((f.take x).foldl (layS (k : Int)) [])))) ⟨_, _, _, rfl, KTu.refl _, rb5⟩ ?_ ?_
          · rintro j σ H6 hj ⟨w9, w10, w11, rfl, kt6, rb6⟩
            rw [show (0 : Int) + (j : Nat) = (j : Nat) by omega]
            have hpart := lay_part (p := k) hs hil (i := j) (by rw [egl]; exact hj)
            rw [foldl_range]
            generalize hcur : (List.range j).foldl (layI (k : Int) s0 i) ((List.range i).foldl (layC (k : Int) s0) ((f.take x).foldl (layS (k : Int)) [])) = cur at rb6 hpart ⊢
            have hb6 : H6 b = some (.tup (l.map V.int)) := kt6 _ _ (kt5 _ _ hl2)
            have hq6 : H6 qa = some (.tup (as.map V.ref)) := kt6 _ _ (kt5 _ _ ha1)
            have hll : l.length ≤ 50 := hsmall.2 l (List.mem_of_getElem? hl1)
            -- longer
            have hj' : j ≤ (l.map V.int).length := by rw [List.length_map]; omega
            have elong : cutV (l.map V.int) none (some (j : Int)) ++ (V.int (k : Nat) :: (cutV (l.map V.int) (some (j : Int)) none ++ [])) = (insAt l j (k : Int)).map V.int := by
              rw [cut_take hj', cut_drop hj', List.append_nil]
              unfold insAt
              rw [List.map_append, List.map_cons, List.map_take, List.map_drop]
            have einner : insAt l j (k : Int) = insAt (s0.getD i []) j (k : Int) := by rw [egl]
            refine ⟨_, rfl, _, rfl, j, rfl, b, _, rfl, hb6, fun p1 H7 sm7 hp1 => ⟨p1, _, rfl, .inl (SqT.of hp1), _, rfl, _, rfl, _, rfl, j, rfl, b, _, rfl, sm7 _ _ hb6, fun p2 H8 sm8 hp2 => ⟨p2, _, rfl, .inl (SqT.of hp2), ?_⟩⟩⟩
            show (cutV (l.map V.int) none (some (j : Int)) ++ (V.int (k : Nat) :: (cutV (l.map V.int) (some (j : Int)) none ++ []))).length ≤ sizeLine ∧ _
            rw [elong]
            refine ⟨?_, fun u nu => ?_⟩
            · rw [List.length_map]
              unfold insAt
              rw [List.length_append, List.length_cons, List.length_take, List.length_drop, sizeLine_eq]
              omega
            have smu : Same H8 (upd H8 u (.tup ((insAt l j (k : Int)).map V.int))) := same_upd nu
            have sm6 : Same H6 (upd H8 u (.tup ((insAt l j (k : Int)).map V.int))) := (sm7.trans sm8).trans smu
            -- lines
            have hi1 : i ≤ (as.map V.ref).length := by omega
            have hi2 : i + 1 ≤ (as.map V.ref).length := by omega
            have elines : cutV (as.map V.ref) none (some (i : Int)) ++ (V.ref u :: (cutV (as.map V.ref) (some ((i : Int) + 1)) none ++ [])) = (as.take i ++ u :: as.drop (i + 1)).map V.ref := by
              rw [show ((i : Int) + 1) = ((i + 1 : Nat) : Int) by omega, cut_take hi1, cut_drop hi2, List.append_nil, List.map_append, List.map_cons, List.map_take, List.map_drop]
            refine ⟨_, rfl, _, rfl, i, rfl, qa, _, rfl, sm6 _ _ hq6, fun p3 H9 sm9 hp3 => ⟨p3, _, rfl, .inl (SqT.of hp3), _, rfl, _, rfl, _, rfl, _, _, rfl, rfl, _, rfl, qa, _, rfl, sm9 _ _ (sm6 _ _ hq6), fun p4 H10 sm10 hp4 => ⟨p4, _, rfl, .inl (SqT.of hp4), ?_⟩⟩⟩
            show (cutV (as.map V.ref) none (some (i : Int)) ++ (V.ref u :: (cutV (as.map V.ref) (some ((i : Int) + 1)) none ++ []))).length ≤ sizeLine ∧ _
            rw [elines]
            refine ⟨?_, fun g ng => ?_⟩
            · rw [List.length_map, List.length_append, List.length_cons, List.length_take, List.length_drop, sizeLine_eq]
              have := hsmall.1
              omega
            have smg : Same H10 (upd H10 g (.tup ((as.take i ++ u :: as.drop (i + 1)).map V.ref))) := same_upd ng
            have smz : Same H6 (upd H10 g (.tup ((as.take i ++ u :: as.drop (i + 1)).map V.ref))) := ((sm6.trans sm9).trans sm10).trans smg
            have hstg : StT (upd H10 g (.tup ((as.take i ++ u :: as.drop (i + 1)).map V.ref))) g (laid (k : Int) s0 i j) := by
              refine ⟨as.take i ++ u :: as.drop (i + 1), upd_same, ?_⟩
              have pz : Paired (LineT (upd H10 g (.tup ((as.take i ++ u :: as.drop (i + 1)).map V.ref)))) as s0 := line_kept ((kt5.trans kt6).trans (ktu_of smz)) ha2
              unfold laid
              rw [← einner]
              refine paired_app (paired_take i pz) (.cons ?_ (paired_drop (i + 1) pz))
              exact smg _ _ (sm10 _ _ (sm9 _ _ upd_same))
            obtain ⟨r1, r2, r3, ψ, r4, r5⟩ := rb6.same smz
            -- later[lines] = True
            have hcl : cur.length ≤ (layP f k).length := Nat.le_trans (layI_mono (k : Int) s0 i cur j) hpart
            refine ⟨_, rfl, _, rfl, ld, g, ψ, _, _, rfl, rfl, r4, r5, hstg, by rw [keysV_len, sizeLine_eq]; omega, fun ψ' da' => ?_⟩
            rw [keysV_put] at da'
            have kz := keep_upd (o := .ext ψ') r4 (fun xs z => nomatch z)
            refine ⟨_, _, _, rfl, (kt6.trans (ktu_of smz)).trans kz, same_put r1 hld0, by rw [upd_ne nfl]; exact r2, r3.keep kz, ψ', upd_same, da'⟩
          · rintro σ H6 ⟨w9, w10, w11, rfl, kt6, rb6⟩
            refine ⟨_, _, _, _, _, rfl, kt5.trans kt6, ?_⟩
            rw [foldl_range]
            show RB P w H H6 fd ld od φ f (layC (k : Int) s0 _ i)
            unfold layC
            rw [egl]
            exact rb6
        · rintro σ H4 ⟨z7, z8, z9, z10, z11, rfl, kt4, rb4⟩
          rw [hl] at rb4
          refine ⟨_, _, _, _, _, _, rfl, ?_⟩
          rw [foldl_take (layS (k : Int)) [] hs]
          exact rb4
      · rintro σ H3 ⟨y6, y7, y8, y9, y10, y11, rfl, rb⟩
        rw [keysV_len, List.take_length] at rb
        obtain ⟨r1, r2, r3, ψ, r4, r5⟩ := rb
        refine ⟨r2, ?_⟩
        have kz := keep_upd (o := .ext φ) r2 (fun xs z => nomatch z)
        refine ⟨_, rfl, ld, ψ, _, _, _, _, _, _, _, _, rfl, same_put r1 hfd0, hld0, by rw [upd_ne nfl.symm]; exact r4, r5.keep kz⟩
    · rintro σ H2 ⟨fd, φ, x4, x5, x6, x7, x8, x9, x10, x11, rfl, sm2, hfd0, hfd2, da2⟩
      refine ⟨_, rfl, fd, φ, _, rfl, .inl hfd2, da2, fun p bs np hkeys => ?_⟩
      have pk := paired_keys hkeys
      have smp : Same H2 (upd H2 p (.lst (bs.map V.ref))) := same_upd np
      refine ⟨p, bs, lay n c, rfl, SqL.of upd_same, paired_keep (fun b xs z => smp _ _ z) pk, hne, fun p2 as' ss np2 pss hperm => ?_⟩
      exact q _ p2 as' ss ((sm2.trans smp).trans (same_upd np2)) (paired_keep (fun b xs z => same_upd np2 _ _ z) pss) hperm upd_same
end
end CL

namespace CL
open PySem PySem.Spec PyProof.Rows L2
section
variable {P : Program} {w : World} {K : PySem.W.Frag} {mg : Str → Option Value} {base : Heap}
/-! ### number_of_states, states -/
theorem scNumber : FnScope ["office", "people", "counters", "found", "person"] ["office"] (defScope sNumber) := ⟨rfl, rfl, rfl, by decide +kernel, rfl, by decide +kernel, by decide +kernel⟩
def spNumber : Sp := fun vs H Q _ => ∃ (o : Addr) (n c : Nat), vs = [.ref o] ∧ OffT H o n c ∧ n ≤ 7 ∧ c ≤ 6 ∧ Q (.int (numSt n c)) H
theorem ok_number {f : Addr} {fd : FuncData} (D : Dfn K mg "number_of_states" sNumber ["office"] f fd) (T : Txt mg) : FnOk P w K mg base CX0 1 f fd ["office"] spNumber := by
  refine D.fn.ok scNumber (fun vs H Q E h => ?_) (fun cdv A outer s H vs Q E hr h => ?_)
  · obtain ⟨o, n, c, rfl, _⟩ := h
    rfl
  · obtain ⟨o, n, c, rfl, ho, h1, h2, q⟩ := h
    have nd := scNumber.nd
    refine ⟨_, pss_cons (ps_asg (pv 0) (pg_tup rfl (pgs_cons (pg_name (i := 1) nd rfl (.inl rfl)) (pgs_cons (pg_name (i := 2) nd rfl (.inl rfl)) pgs_nil))))
      (pss_cons (ps_set (i := 3) nd rfl (.inl rfl) pe_int)
      (pss_cons (ps_for PassesOwn.never rfl (pi_range1 (by rfl) T.range (pa_cons (pv 1) pa_nil)) (pg_name (i := 4) nd rfl (.inl rfl))
        (pss_one (ps_set (i := 3) nd rfl (.inl rfl) (pe_op op_mul (pv 3) (pe_op op_add (pv 2) (pv 4))))))
      (pss_one (ps_ret (pv 3))))), ?_⟩
    refine ⟨_, rfl, o, _, rfl, SqT.of ho, rfl, _, _, rfl, _, _, rfl, rfl, ?_⟩
    refine ⟨_, rfl, (n : Int), rfl, by omega, by omega, ?_⟩
    rw [Int.toNat_natCast]
    refine for_range (lo := 0) (n := n) (fun k σ H' => ∃ x4, σ = [some (.ref o), some (.int (n : Int)), some (.int (c : Int)), some (.int (numSt k c)), x4] ∧ H' = H) ⟨none, rfl, rfl⟩ ?_ ?_
    · rintro k σ H1 hk ⟨x4, rfl, rfl⟩
      refine ⟨_, rfl, _, rfl, _, rfl, _, _, rfl, rfl, _, _, rfl, rfl, .inr ⟨by omega, by omega⟩, some (.int (0 + (k : Nat))), ?_, rfl⟩
      have e : numSt (k + 1) c = numSt k c * ((c : Int) + (0 + (k : Nat))) := by
        unfold numSt
        rw [foldl_range, show (0 : Int) + (k : Nat) = (k : Nat) by omega]
      rw [e]
      rfl
    · rintro σ H1 ⟨x4, rfl, rfl⟩
      exact ⟨_, rfl, q⟩
theorem scStates : FnScope ["office"] ["office"] (defScope sStates) := ⟨rfl, rfl, rfl, by decide +kernel, rfl, by decide +kernel, by decide +kernel⟩
def spStates : Sp := fun vs H Q _ => ∃ (o : Addr) (n c : Nat), vs = [.ref o] ∧ OffT H o n c ∧ 1 ≤ n ∧ n ≤ 7 ∧ 1 ≤ c ∧ c ≤ 6 ∧ numSt n c ≤ 20000 ∧ layOk n c = true ∧ (∀ s ∈ lay n c, s ≠ []) ∧ (lay n c).length ≤ 20000 ∧
  ∀ H' p as ss, Same H H' → Paired (StT H') as ss → ss.Perm (lay n c) → H' p = some (.lst (as.map V.ref)) → Q (.ref p) H'
theorem ok_states {f f1 f2 f3 : Addr} {fd fd1 fd2 fd3 : FuncData} (D : Dfn K mg "states" sStates ["office"] f fd) (D1 : Dfn K mg "need_office" sOffice ["office"] f1 fd1) (D2 : Dfn K mg "number_of_states" sNumber ["office"] f2 fd2) (D3 : Dfn K mg "all_states" sAll ["office"] f3 fd3)
    (G1 : FnOk P w K mg base CX0 3 f1 fd1 ["office"] spOffice) (T : Txt mg) : FnOk P w K mg base CX0 4 f fd ["office"] spStates := by
  have G2 : FnOk P w K mg base CX0 1 f2 fd2 ["office"] spNumber := ok_number D2 T
  have G3 : FnOk P w K mg base CX0 1 f3 fd3 ["office"] (spAll P w) := ok_all D3 T
  obtain ⟨tS, mS⟩ := T.states
  refine D.fn.ok scStates (fun vs H Q E h => ?_) (fun cdv A outer s H vs Q E hr h => ?_)
  · obtain ⟨o, n, c, rfl, _⟩ := h
    rfl
  · obtain ⟨o, n, c, rfl, ho, h1, h2, h3, h4, h5, h6, h7, h8, q⟩ := h
    have hr1 : Room 1 _ := hr.mono (by decide)
    refine ⟨_, pss_cons (ps_expr (pe_call G1 hr (by rfl) D1.at_ D1.fn.kp D1.bi .nil pass0 (pa_cons (pv 0) pa_nil)))
      (pss_cons (ps_if (pt_cmpR op_gt (pe_call G2 hr1 (by rfl) D2.at_ D2.fn.kp D2.bi .nil pass0 (pa_cons (pv 0) pa_nil)) (pe_glob (v := .int 20000) (by rfl) mS ⟨_, rfl⟩) (nomark _)) (pss_one ps_never) pss_nil)
      (pss_one (ps_ret (pe_call G3 hr1 (by rfl) D3.at_ D3.fn.kp D3.bi .nil pass0 (pa_cons (pv 0) pa_nil))))), ?_⟩
    refine ⟨_, rfl, o, n, c, rfl, ho, h1, h2, h3, h4, ?_⟩
    refine ⟨_, rfl, o, n, c, rfl, ho, h2, h4, _, _, rfl, rfl, _, rfl, ?_⟩
    rw [decide_eq_false (by omega)]
    refine iteF ?_
    exact ⟨_, rfl, o, n, c, rfl, ho, h2, h3, h4, h6, h7, h8, q⟩
/-! ### need_limit, narrow_distance, count_narrow -/
theorem scLimit : FnScope ["office", "limit"] ["office", "limit"] (defScope sLimit) := ⟨rfl, rfl, rfl, by decide +kernel, rfl, by decide +kernel, by decide +kernel⟩
def spLimit : Sp := fun vs H Q _ => ∃ (o : Addr) (n c m : Nat), vs = [.ref o, .int (m : Int)] ∧ OffT H o n c ∧ 1 ≤ m ∧ m ≤ n ∧ Q .non H
theorem ok_limit {f f2 : Addr} {fd fd2 : FuncData} (D : Dfn K mg "need_limit" sLimit ["office", "limit"] f fd) (D2 : Dfn K mg "is_in" sIn ["value", "least", "most"] f2 fd2) (G2 : FnOk P w K mg base CX0 2 f2 fd2 ["value", "least", "most"] spIn) :
    FnOk P w K mg base CX0 3 f fd ["office", "limit"] spLimit := by
  refine D.fn.ok scLimit (fun vs H Q E h => ?_) (fun cdv A outer s H vs Q E hr h => ?_)
  · obtain ⟨o, n, c, m, rfl, _⟩ := h
    rfl
  · obtain ⟨o, n, c, m, rfl, ho, h1, h2, q⟩ := h
    refine ⟨_, pss_one (ps_if (pt_not (pt_val (pe_call G2 hr (by rfl) D2.at_ D2.fn.kp D2.bi .nil pass0 (pa_cons (pv 1) (pa_cons pe_int (pa_cons (pe_ix ix_tup (pv 0) pe_int (fun _ _ => rfl)) pa_nil)))))) (pss_one ps_never) pss_nil), ?_⟩
    refine ⟨_, rfl, _, rfl, o, _, 0, _, rfl, rfl, SqT.of ho, atI_nat (j := 0) rfl, _, _, _, rfl, by omega, by omega, true, rfl, iteF ?_⟩
    exact q
def outV (o : Option Int) : V := (o.map V.int).getD .non
theorem scNarrow : FnScope ["office", "one", "other", "limit"] ["office", "one", "other", "limit"] (defScope sNarrow) := ⟨rfl, rfl, rfl, by decide +kernel, rfl, by decide +kernel, by decide +kernel⟩
def spNarrow : Sp := fun vs H Q _ => ∃ (o a b : Addr) (n c m fuel : Nat) (s t : Sta) (r : Tab), vs = [.ref o, .ref a, .ref b, .int (m : Int)] ∧ OffT H o n c ∧ 1 ≤ n ∧ n ≤ 7 ∧ 1 ≤ c ∧ c ≤ 6 ∧ StT H a s ∧ Val n c s ∧ s.flatten.length ≤ 100 ∧ StT H b t ∧ Val n c t ∧ t.flatten.length ≤ 100 ∧
  1 ≤ m ∧ m ≤ n ∧ fits s m = true ∧ reach n m fuel [(s, 0)] [s] 0 = some r ∧ ∀ H', Same H H' → Q (outV (lookT r t)) H'
theorem ok_narrow {f f1 f2 f3 f4 f5 : Addr} {fd fd1 fd2 fd3 fd4 fd5 : FuncData} (D : Dfn K mg "narrow_distance" sNarrow ["office", "one", "other", "limit"] f fd) (D1 : Dfn K mg "need_state" sState ["office", "state"] f1 fd1) (D2 : Dfn K mg "need_lines" sLines ["office", "state"] f2 fd2)
    (D3 : Dfn K mg "need_limit" sLimit ["office", "limit"] f3 fd3) (D4 : Dfn K mg "fits_in" sFits ["state", "limit"] f4 fd4) (D5 : Dfn K mg "reached_within" sReach ["office", "state", "limit", "barred"] f5 fd5)
    (G1 : FnOk P w K mg base CX0 4 f1 fd1 ["office", "state"] spState) (G2 : FnOk P w K mg base CX0 3 f2 fd2 ["office", "state"] spLines) (G3 : FnOk P w K mg base CX0 3 f3 fd3 ["office", "limit"] spLimit) (G4 : FnOk P w K mg base CX0 1 f4 fd4 ["state", "limit"] spFits)
    (G5 : FnOk P w K mg base CX0 3 f5 fd5 ["office", "state", "limit", "barred"] (spReach P w)) : FnOk P w K mg base CX0 5 f fd ["office", "one", "other", "limit"] spNarrow := by
  refine D.fn.ok scNarrow (fun vs H Q E h => ?_) (fun cdv A outer s H vs Q E hr h => ?_)
  · obtain ⟨o, a, b, n, c, m, fuel, s, t, r, rfl, _⟩ := h
    rfl
  · obtain ⟨o, a, b, n, c, m, fuel, st, t, r, rfl, ho, h1, h2, h3, h4, ha, va, za, hb, vb, zb, hm1, hm2, hf, hre, q⟩ := h
    have hr1 : Room 1 _ := hr.mono (by decide)
    have hr3 : Room 3 _ := hr.mono (by decide)
    refine ⟨_, pss_cons (ps_expr (pe_call G1 hr (by rfl) D1.at_ D1.fn.kp D1.bi .nil pass0 (pa_cons (pv 0) (pa_cons (pv 1) pa_nil))))
      (pss_cons (ps_expr (pe_call G2 hr3 (by rfl) D2.at_ D2.fn.kp D2.bi .nil pass0 (pa_cons (pv 0) (pa_cons (pv 2) pa_nil))))
      (pss_cons (ps_expr (pe_call G3 hr3 (by rfl) D3.at_ D3.fn.kp D3.bi .nil pass0 (pa_cons (pv 0) (pa_cons (pv 3) pa_nil))))
      (pss_cons (ps_if (pt_not (pt_val (pe_call G4 hr1 (by rfl) D4.at_ D4.fn.kp D4.bi .nil pass0 (pa_cons (pv 1) (pa_cons (pv 3) pa_nil))))) (pss_one ps_never) pss_nil)
      (pss_one (ps_ret (pe_dgetS (hu10 hr) (pe_call G5 hr3 (by rfl) D5.at_ D5.fn.kp D5.bi .nil pass0 (pa_cons (pv 0) (pa_cons (pv 1) (pa_cons (pv 3) (pa_cons (pe_tup pa_nil) pa_nil))))) (pv 2) ⟨rfl, rfl, rfl, rfl⟩)))))), ?_⟩
    refine ⟨_, rfl, _, rfl, o, a, n, c, st, rfl, ho, h1, h2, h3, h4, ha, va, za, fun H1 sm1 => ?_⟩
    refine ⟨_, rfl, _, rfl, o, b, n, c, t, rfl, ho.same sm1, hb.same sm1, vb, zb, fun H2 sm2 => ?_⟩
    have smA := sm1.trans sm2
    refine ⟨_, rfl, _, rfl, o, n, c, m, rfl, ho.same smA, hm1, hm2, ?_⟩
    refine ⟨_, rfl, _, rfl, a, m, st, rfl, ha.same smA, by have := va.len; omega, fun H3 sm3 => ?_⟩
    rw [hf]
    refine ⟨true, rfl, iteF ?_⟩
    have smB := smA.trans sm3
    refine ⟨_, rfl, _, rfl, _, rfl, Nat.zero_le _, fun e ne => ?_⟩
    have sme : Same H3 (upd H3 e (.tup [])) := same_upd ne
    refine ⟨o, a, e, n, c, m, fuel, st, r, rfl, ho.same (smB.trans sme), h2, ha.same (smB.trans sme), upd_same, hre, fun H4 d φ sm4 nd4 hd da => ?_⟩
    have smC := (smB.trans sme).trans sm4
    refine ⟨d, φ, _, rfl, .inl hd, da, _, rfl, b, t, rfl, .inl hd, da, hb.same smC, ?_⟩
    rw [tabV_val]
    exact q H4 smC
theorem scCount : FnScope ["office", "state", "limit"] ["office", "state", "limit"] (defScope sCount) := ⟨rfl, rfl, rfl, by decide +kernel, rfl, by decide +kernel, by decide +kernel⟩
def spCount : Sp := fun vs H Q _ => ∃ (o a : Addr) (n c m fuel : Nat) (s : Sta) (r : Tab), vs = [.ref o, .ref a, .int (m : Int)] ∧ OffT H o n c ∧ 1 ≤ n ∧ n ≤ 7 ∧ 1 ≤ c ∧ c ≤ 6 ∧ StT H a s ∧ Val n c s ∧ s.flatten.length ≤ 100 ∧
  1 ≤ m ∧ m ≤ n ∧ fits s m = true ∧ reach n m fuel [(s, 0)] [s] 0 = some r ∧ ∀ H', Same H H' → Q (.int (r.length : Nat)) H'
theorem ok_count {f f1 f3 f4 f5 : Addr} {fd fd1 fd3 fd4 fd5 : FuncData} (D : Dfn K mg "count_narrow" sCount ["office", "state", "limit"] f fd) (D1 : Dfn K mg "need_state" sState ["office", "state"] f1 fd1)
    (D3 : Dfn K mg "need_limit" sLimit ["office", "limit"] f3 fd3) (D4 : Dfn K mg "fits_in" sFits ["state", "limit"] f4 fd4) (D5 : Dfn K mg "reached_within" sReach ["office", "state", "limit", "barred"] f5 fd5) (T : Txt mg)
    (G1 : FnOk P w K mg base CX0 4 f1 fd1 ["office", "state"] spState) (G3 : FnOk P w K mg base CX0 3 f3 fd3 ["office", "limit"] spLimit) (G4 : FnOk P w K mg base CX0 1 f4 fd4 ["state", "limit"] spFits)
    (G5 : FnOk P w K mg base CX0 3 f5 fd5 ["office", "state", "limit", "barred"] (spReach P w)) : FnOk P w K mg base CX0 5 f fd ["office", "state", "limit"] spCount := by
  refine D.fn.ok scCount (fun vs H Q E h => ?_) (fun cdv A outer s H vs Q E hr h => ?_)
  · obtain ⟨o, a, n, c, m, fuel, s, r, rfl, _⟩ := h
    rfl
  · obtain ⟨o, a, n, c, m, fuel, st, r, rfl, ho, h1, h2, h3, h4, ha, va, za, hm1, hm2, hf, hre, q⟩ := h
    have hr1 : Room 1 _ := hr.mono (by decide)
    have hr3 : Room 3 _ := hr.mono (by decide)
    refine ⟨_, pss_cons (ps_expr (pe_call G1 hr (by rfl) D1.at_ D1.fn.kp D1.bi .nil pass0 (pa_cons (pv 0) (pa_cons (pv 1) pa_nil))))
      (pss_cons (ps_expr (pe_call G3 hr3 (by rfl) D3.at_ D3.fn.kp D3.bi .nil pass0 (pa_cons (pv 0) (pa_cons (pv 2) pa_nil))))
      (pss_one (ps_ret (pe_ifExp (pt_val (pe_call G4 hr1 (by rfl) D4.at_ D4.fn.kp D4.bi .nil pass0 (pa_cons (pv 1) (pa_cons (pv 2) pa_nil))))
        (pe_callB call_lenS (by rfl) T.len PySem.boot_len (pa_cons (pe_call G5 hr3 (by rfl) D5.at_ D5.fn.kp D5.bi .nil pass0 (pa_cons (pv 0) (pa_cons (pv 1) (pa_cons (pv 2) (pa_cons (pe_tup pa_nil) pa_nil))))) pa_nil)) pe_int)))), ?_⟩
    refine ⟨_, rfl, _, rfl, o, a, n, c, st, rfl, ho, h1, h2, h3, h4, ha, va, za, fun H1 sm1 => ?_⟩
    refine ⟨_, rfl, _, rfl, o, n, c, m, rfl, ho.same sm1, hm1, hm2, ?_⟩
    refine ⟨_, rfl, _, rfl, a, m, st, rfl, ha.same sm1, by have := va.len; omega, fun H3 sm3 => ?_⟩
    rw [hf]
    refine ⟨true, rfl, iteT ?_⟩
    have smB := sm1.trans sm3
    refine ⟨_, rfl, _, rfl, _, rfl, Nat.zero_le _, fun e ne => ?_⟩
    have sme : Same H3 (upd H3 e (.tup [])) := same_upd ne
    refine ⟨o, a, e, n, c, m, fuel, st, r, rfl, ho.same (smB.trans sme), h2, ha.same (smB.trans sme), upd_same, hre, fun H4 d φ sm4 nd4 hd da => ?_⟩
    refine ⟨d, φ, _, rfl, .inl hd, da, ?_⟩
    rw [tabV_len]
    exact q H4 ((smB.trans sme).trans sm4)
end
end CL

namespace CL
open PySem PySem.Spec PyProof.Rows L2
section
variable {P : Program} {w : World} {K : PySem.W.Frag} {mg : Str → Option Value} {base : Heap}
/-! ### _law_taken -/
def rowV (S : Addr) (k g c : Int) : List V := [.ref S, .int k, .int g, .int c]
theorem seq_upd {H : Hp} {R S S' : Addr} {k g c : Int} {ns : List Int} {o : HO} (hR : H R = some (.lst (rowV S' k g c))) (hS : SqL K H S (ns.map V.int)) : SqL K (upd H R o) S (ns.map V.int) := by
  have hne : ns.map V.int ≠ rowV S' k g c := fun e => by
    cases ns with
    | nil => cases e
    | cons x r =>
      rw [List.map_cons] at e
      injection e with e1 _
      cases e1
  rcases hS with (h | ⟨ob, h⟩) | h
  · exact .inl (.inl (by rw [upd_ne (ne_of h hR (fun z => hne (HO.lst.inj z)))]; exact h))
  · exact .inl (.inr ⟨ob, by rw [upd_ne (ne_of h hR (fun z => nomatch z))]; exact h⟩)
  · exact .inr h
theorem scTaken : FnScope ["_law_row", "_law_many", "_law_found", "_law_cell"] ["_law_row", "_law_many"] (defScope sTaken) := ⟨rfl, rfl, rfl, by decide +kernel, rfl, by decide +kernel, by decide +kernel⟩
def spTaken (K : PySem.W.Frag) : Sp := fun vs H Q _ => ∃ (R S : Addr) (k g c m : Int) (ns : List Int), vs = [.ref R, .int m] ∧ H R = some (.lst (rowV S k g c)) ∧ 0 ≤ k ∧ SqL K H S (ns.map V.int) ∧ 1 ≤ m ∧ m ≤ 100 ∧
  ∀ x k' g' c' : Int, 0 ≤ x → x < m → 0 ≤ k' → Q (.int x) (upd H R (.lst (rowV S k' g' c')))
theorem ok_taken {f : Addr} {fd : FuncData} (D : Dfn K mg "_law_taken" sTaken ["_law_row", "_law_many"] f fd) (T : Txt mg) : FnOk P w K mg base CX0 1 f fd ["_law_row", "_law_many"] (spTaken K) := by
  refine D.fn.ok scTaken (fun vs H Q E h => ?_) (fun cdv A outer s H vs Q E hr h => ?_)
  · obtain ⟨R, S, k, g, c, m, ns, rfl, _⟩ := h
    rfl
  · obtain ⟨R, S, k, g, c, m, ns, rfl, hR, hk, hS, hm1, hm2, q⟩ := h
    have nd := scTaken.nd
    refine ⟨_, pss_cons (ps_if (pt_cmpR op_gt (pe_ix ix_list (pv 0) pe_int (fun _ _ => rfl)) pe_int (nomark _))
        (pss_cons (ps_set (i := 2) nd rfl (.inl rfl) (pe_op op_mod (pe_callTy call_int1 (by rfl) T.int (by decide +kernel) (pa_cons (pe_ix ix_list (pv 0) pe_int (fun _ _ => rfl)) pa_nil)) (pv 1)))
        (pss_cons (ps_asg (pe_op op_fdivN (pe_ix ix_list (pv 0) pe_int (fun _ _ => rfl)) (pv 1)) (pg_sub (pv 0) pe_int set_list))
        (pss_one (ps_ret (pv 2))))) pss_nil)
      (pss_cons (ps_asg (pe_op op_add (pe_ix ix_list (pv 0) pe_int (fun _ _ => rfl)) pe_int) (pg_sub (pv 0) pe_int set_list))
      (pss_cons (ps_if (pt_cmpR op_gt (pe_ix ix_list (pv 0) pe_int (fun _ _ => rfl)) (pe_callB call_len_seq (by rfl) T.len PySem.boot_len (pa_cons (pe_ix ix_list (pv 0) pe_int (fun _ _ => rfl)) pa_nil)) (nomark _))
        (pss_cons (ps_asg (pe_op op_mod (pe_callTy call_int1 (by rfl) T.int (by decide +kernel) (pa_cons (pe_op op_add (pe_op op_mul (pe_ix ix_list (pv 0) pe_int (fun _ _ => rfl)) pe_int) pe_int) pa_nil)) pe_int) (pg_sub (pv 0) pe_int set_list))
        (pss_one (ps_ret (pe_op op_mod (pe_callTy call_int1 (by rfl) T.int (by decide +kernel) (pa_cons (pe_op op_fdivN (pe_ix ix_list (pv 0) pe_int (fun _ _ => rfl)) pe_int) pa_nil)) (pv 1))))) pss_nil)
      (pss_cons (ps_set (i := 3) nd rfl (.inl rfl) (pe_ix ix_list (pe_ix ix_list (pv 0) pe_int (fun _ _ => rfl)) (pe_op op_sub (pe_ix ix_list (pv 0) pe_int (fun _ _ => rfl)) pe_int) (fun _ _ => rfl)))
      (pss_cons (ps_asg (pe_op op_mod (pe_callTy call_int1 (by rfl) T.int (by decide +kernel) (pa_cons (pe_op op_add (pe_op op_add (pe_op op_mul (pe_ix ix_list (pv 0) pe_int (fun _ _ => rfl)) pe_int) (pv 3)) pe_int) pa_nil)) pe_int) (pg_sub (pv 0) pe_int set_list))
      (pss_cons (ps_if (pt_cmpR op_ge (pv 3) (pe_op op_pow pe_int pe_int) (nomark _)) (pss_one (ps_asg (pe_op op_fdivN (pv 3) (pv 1)) (pg_sub (pv 0) pe_int set_list))) pss_nil)
      (pss_one (ps_ret (pe_op op_mod (pe_callTy call_int1 (by rfl) T.int (by decide +kernel) (pa_cons (pv 3) pa_nil)) (pv 1))))))))), ?_⟩
    have md : ∀ z : Int, 0 ≤ z % m ∧ z % m < m := fun z => ⟨Int.emod_nonneg _ (by omega), Int.emod_lt_of_pos _ (by omega)⟩
    have a0 : ∀ k g c : Int, atI (rowV S k g c) 0 = some (.ref S) := fun _ _ _ => atI_nat (j := 0) rfl
    have a1 : ∀ k g c : Int, atI (rowV S k g c) 1 = some (.int k) := fun _ _ _ => atI_nat (j := 1) rfl
    have a2 : ∀ k g c : Int, atI (rowV S k g c) 2 = some (.int g) := fun _ _ _ => atI_nat (j := 2) rfl
    have a3 : ∀ k g c : Int, atI (rowV S k g c) 3 = some (.int c) := fun _ _ _ => atI_nat (j := 3) rfl
    have cd : ∀ z : Int, CDivN z m := fun z => ⟨by omega, by omega⟩
    -- if _law_row[3] > 0
    refine ⟨_, rfl, R, _, 3, _, rfl, rfl, SqL.of hR, a3 _ _ _, _, _, rfl, rfl, _, rfl, ite2 (fun hc => ?_) (fun hc => ?_)⟩
    · refine ⟨_, rfl, R, _, 3, _, rfl, rfl, SqL.of hR, a3 _ _ _, .inl ⟨c, rfl, _, rfl, _, _, rfl, rfl, by omega, ?_⟩⟩
      refine ⟨_, rfl, R, _, 3, _, rfl, rfl, SqL.of hR, a3 _ _ _, _, rfl, _, _, rfl, rfl, cd _, _, rfl, R, _, _, 3, rfl, rfl, hR, rfl, ?_⟩
      refine ⟨_, rfl, ?_⟩
      exact q _ k g _ (md c).1 (md c).2 hk
    -- _law_row[1] = _law_row[1] + 1
    refine ⟨_, rfl, R, _, 1, _, rfl, rfl, SqL.of hR, a1 _ _ _, _, _, rfl, rfl, _, rfl, R, _, _, 1, rfl, rfl, hR, rfl, ?_⟩
    show _
    have hR1 : (upd H R (.lst (rowV S (k + 1) g c))) R = some (.lst (rowV S (k + 1) g c)) := upd_same
    have hS1 : SqL K (upd H R (.lst (rowV S (k + 1) g c))) S (ns.map V.int) := seq_upd hR hS
    -- if _law_row[1] > len(_law_row[0])
    refine ⟨_, rfl, R, rowV S (k + 1) g c, 1, _, rfl, rfl, SqL.of hR1, a1 _ _ _, _, rfl, R, _, 0, _, rfl, rfl, SqL.of hR1, a0 _ _ _, S, ns.map V.int, rfl, .inl hS1, _, _, rfl, rfl, _, rfl, ite2 (fun hc => ?_) (fun hc => ?_)⟩
    · refine ⟨_, rfl, R, _, 2, _, rfl, rfl, SqL.of hR1, a2 _ _ _, _, _, rfl, rfl, .inr ⟨by decide, by decide⟩, _, _, rfl, rfl, .inl ⟨_, rfl, _, _, rfl, rfl, (show (0 : Int) < 2147483647 by decide), _, rfl, R, _, _, 2, rfl, rfl, hR1, rfl, ?_⟩⟩
      rw [upd_upd]
      refine ⟨_, rfl, R, _, 2, _, rfl, rfl, SqL.of upd_same, atI_nat (j := 2) rfl, _, _, rfl, rfl, ⟨by decide, by decide⟩, .inl ⟨_, rfl, _, rfl, _, _, rfl, rfl, by omega, ?_⟩⟩
      exact q _ (k + 1) _ c (md _).1 (md _).2 (by omega)
    -- _law_cell
    have hc' : ¬ ((ns.map V.int).length : Int) < k + 1 := fun z => hc (decide_eq_true z)
    rw [List.length_map] at hc'
    obtain ⟨x, hx⟩ : ∃ x, ns[k.toNat]? = some x := ⟨ns[k.toNat]'(by omega), List.getElem?_eq_getElem _⟩
    have hxa : atI (ns.map V.int) (k + 1 - 1) = some (.int x) := by
      have e : k + 1 - 1 = (k.toNat : Int) := by omega
      rw [e]
      refine atI_nat ?_
      rw [List.getElem?_map, hx]
      rfl
    refine ⟨_, rfl, R, _, 0, _, rfl, rfl, SqL.of hR1, a0 _ _ _, _, rfl, R, _, 1, _, rfl, rfl, SqL.of hR1, a1 _ _ _, _, _, rfl, rfl, S, _, _, _, rfl, rfl, hS1, hxa, ?_⟩
    refine ⟨_, rfl, R, _, 2, _, rfl, rfl, SqL.of hR1, a2 _ _ _, _, _, rfl, rfl, .inr ⟨by decide, by decide⟩, _, rfl, _, _, rfl, rfl, _, _, rfl, rfl, .inl ⟨_, rfl, _, _, rfl, rfl, (show (0 : Int) < 2147483647 by decide), _, rfl, R, _, _, 2, rfl, rfl, hR1, rfl, ?_⟩⟩
    rw [upd_upd]
    refine ⟨_, rfl, _, _, rfl, rfl, ⟨by decide, by decide, by decide⟩, _, _, rfl, rfl, _, rfl, ite2 (fun hb => ?_) (fun hb => ?_)⟩
    · refine ⟨_, rfl, _, rfl, _, _, rfl, rfl, cd _, _, rfl, R, _, _, 3, rfl, rfl, upd_same, rfl, ?_⟩
      rw [upd_upd]
      refine ⟨_, rfl, .inl ⟨_, rfl, _, rfl, _, _, rfl, rfl, by omega, ?_⟩⟩
      exact q _ (k + 1) _ _ (md x).1 (md x).2 (by omega)
    · refine ⟨_, rfl, .inl ⟨_, rfl, _, rfl, _, _, rfl, rfl, by omega, ?_⟩⟩
      exact q _ (k + 1) _ c (md x).1 (md x).2 (by omega)
/-! ### _law_state -/
/-- all but the row is as it was -/
def SBut (R : Addr) (H H' : Hp) : Prop := ∀ b o, b ≠ R → H b = some o → H' b = some o
theorem SBut.same {R : Addr} {H H1 H2 : Hp} (a : SBut R H H1) (b : Same H1 H2) : SBut R H H2 := fun c o n e => b _ _ (a c o n e)
theorem SBut.put {R x : Addr} {H H1 : Hp} {o : HO} (a : SBut R H H1) (h : H x = none) : SBut R H (upd H1 x o) := fun c u n e => by
  rw [upd_ne (ne_of_none e h)]
  exact a c u n e
theorem SBut.row {R : Addr} {H H1 : Hp} {o : HO} (a : SBut R H H1) : SBut R H (upd H1 R o) := fun c u n e => by
  rw [upd_ne n]
  exact a c u n e
theorem SBut.of {R : Addr} {H H1 : Hp} (a : Same H H1) : SBut R H H1 := fun c o _ e => a c o e
theorem SBut.trans {R : Addr} {H H1 H2 : Hp} (a : SBut R H H1) (b : SBut R H1 H2) : SBut R H H2 := fun c o n e => b c o n (a c o n e)
theorem SBut.ktu {R : Addr} {H H1 : Hp} (a : SBut R H H1) {xs : List V} (h : H R = some (.lst xs)) : KTu H H1 := fun b ys e => a b _ (ne_of e h (fun z => nomatch z)) e
theorem SBut.seq {R S S' : Addr} {H H1 : Hp} {k g c : Int} {ns : List Int} (a : SBut R H H1) (hR : H R = some (.lst (rowV S' k g c))) (hS : SqL K H S (ns.map V.int)) : SqL K H1 S (ns.map V.int) := by
  have hne : ns.map V.int ≠ rowV S' k g c := fun e => by
    cases ns with
    | nil => cases e
    | cons x r =>
      rw [List.map_cons] at e
      injection e with e1 _
      cases e1
  rcases hS with (h | ⟨ob, h⟩) | h
  · exact .inl (.inl (a _ _ (ne_of h hR (fun z => hne (HO.lst.inj z))) h))
  · exact .inl (.inr ⟨ob, a _ _ (ne_of h hR (fun z => nomatch z)) h⟩)
  · exact .inr h
theorem erase_map {α β : Type} (f : α → β) : ∀ (l : List α) (i : Nat), (l.map f).eraseIdx i = (l.eraseIdx i).map f
  | [], _ => rfl
  | _ :: _, 0 => rfl
  | x :: r, i + 1 => congrArg (f x :: ·) (erase_map f r i)
theorem ix_nat {n : Nat} {x : Int} (h0 : 0 ≤ x) (h1 : x < n) : ixN n x = some x.toNat := by
  unfold ixN
  rw [if_pos h0, if_pos h1]
theorem rg_ints (n : Nat) : rgV 0 (n : Int) = (upto n).map V.int := by
  unfold rgV upto
  rw [Int.sub_zero, Int.toNat_natCast, List.map_map]
  refine List.map_congr_left fun i _ => ?_
  show V.int (0 + (i : Nat)) = V.int (i : Nat)
  rw [Int.zero_add]
theorem scDraw : FnScope ["_law_row", "_law_office", "_law_lines", "_law_left", "_law_turn", "_law_counter", "_law_line"] ["_law_row", "_law_office"] (defScope sDraw) := ⟨rfl, rfl, rfl, by decide +kernel, rfl, by decide +kernel, by decide +kernel⟩
def spDraw (K : PySem.W.Frag) : Sp := fun vs H Q _ => ∃ (R S o : Addr) (k g c : Int) (n : Nat) (ns : List Int), vs = [.ref R, .ref o] ∧ H R = some (.lst (rowV S k g c)) ∧ 0 ≤ k ∧ SqL K H S (ns.map V.int) ∧ OffT H o n 1 ∧ 1 ≤ n ∧ n ≤ 7 ∧
  ∀ (H' : Hp) (p : Addr) (order : List Int) (k' g' c' : Int), SBut R H H' → H' R = some (.lst (rowV S k' g' c')) → 0 ≤ k' → StT H' p [order] → order ∈ picks n (upto n) → Q (.ref p) H'
theorem ok_draw {f f1 : Addr} {fd fd1 : FuncData} (D : Dfn K mg "_law_state" sDraw ["_law_row", "_law_office"] f fd) (D1 : Dfn K mg "_law_taken" sTaken ["_law_row", "_law_many"] f1 fd1) (T : Txt mg) : FnOk P w K mg base CX0 2 f fd ["_law_row", "_law_office"] (spDraw K) := by
  have G1 : FnOk P w K mg base CX0 1 f1 fd1 ["_law_row", "_law_many"] (spTaken K) := ok_taken D1 T
  refine D.fn.ok scDraw (fun vs H Q E h => ?_) (fun cdv A outer s H vs Q E hr h => ?_)
  · obtain ⟨R, S, o, k, g, c, n, ns, rfl, _⟩ := h
    rfl
  · obtain ⟨R, S, o, k, g, c, n, ns, rfl, hR, hk, hS, ho, hn1, hn7, q⟩ := h
    have nd := scDraw.nd
    refine ⟨_, pss_cons (ps_par (i := 2) (j := 3) rfl nd rfl rfl (by decide) rfl rfl
        (pa_cons (pe_lc (own := [("_law_counter", 5)]) rfl nd (pi_range1 (by rfl) T.range (pa_cons (pe_ix ix_tup (pv 1) pe_int (fun _ _ => rfl)) pa_nil)) (blkOk_by (N := ["_law_row", "_law_office", "_law_lines", "_law_left", "_law_turn", "_law_counter", "_law_line"]) (sc := defScope sDraw) (by decide +kernel))
            (fun _ _ _ _ _ => pg_name (i := 5) nd rfl (.inl rfl) (.inr rfl)) (fun _ _ _ _ _ => pts_nil) (fun _ _ _ _ _ => pe_lst pa_nil))
          (pa_cons (pe_listRg rfl (by rfl) T.list (prg_1 (by rfl) T.range (pe_ix ix_tup (pv 1) pe_int (fun _ _ => rfl)))) pa_nil)) rfl)
      (pss_cons (ps_for PassesOwn.never rfl (pi_range1 (by rfl) T.range (pa_cons (pe_ix ix_tup (pv 1) pe_int (fun _ _ => rfl)) pa_nil)) (pg_name (i := 4) nd rfl (.inl rfl))
        (pss_one (ps_expr (pe_bm PySem.F.plainAttrs_list PySem.F.slot_list_append PySem.F.type_list_append mt_append
          (pe_ix ix_list (pv 2) (pe_call G1 hr (by rfl) D1.at_ D1.fn.kp D1.bi .nil pass0 (pa_cons (pv 0) (pa_cons (pe_ix ix_tup (pv 1) pe_int (fun _ _ => rfl)) pa_nil))) (fun _ _ => rfl))
          (pa_cons (pe_bm PySem.F.plainAttrs_list PySem.F.slot_list_pop PySem.F.type_list_pop mt_popAt (pv 3)
            (pa_cons (pe_call G1 hr (by rfl) D1.at_ D1.fn.kp D1.bi .nil pass0 (pa_cons (pv 0) (pa_cons (pe_callB call_len_seq (by rfl) T.len PySem.boot_len (pa_cons (pv 3) pa_nil)) pa_nil))) pa_nil)) pa_nil)))))
      (pss_one (ps_ret (pe_callTy call_tuple_of (by rfl) T.tuple (by decide +kernel) (pa_cons (pe_lc (own := [("_law_line", 6)]) rfl nd (pi_list (pv 2)) (blkOk_by (N := ["_law_row", "_law_office", "_law_lines", "_law_left", "_law_turn", "_law_counter", "_law_line"]) (sc := defScope sDraw) (by decide +kernel))
        (fun _ _ _ _ _ => pg_name (i := 6) nd rfl (.inl rfl) (.inr rfl)) (fun _ _ _ _ _ => pts_nil) (fun _ _ _ _ _ => pe_callTy (call_tupleK (K := K) rfl) (by rfl) T.tuple (by decide +kernel) (pa_cons (pv 6) pa_nil))) pa_nil))))), ?_⟩
    -- _law_lines
    refine ⟨_, rfl, o, _, 1, _, rfl, rfl, SqT.of ho, atI_nat (j := 1) rfl, ((1 : Nat) : Int), rfl, by decide, by decide, fun D0 nD => ?_⟩
    rw [Int.toNat_natCast]
    refine lc_range (lo := 0) (n := 1) (fun j H' => Same H H' ∧ ((j = 0 ∧ H' D0 = some (.lst [])) ∨ (j = 1 ∧ ∃ b, b ≠ D0 ∧ H b = none ∧ H' D0 = some (.lst [.ref b]) ∧ H' b = some (.lst [])))) ⟨same_upd nD, .inl ⟨rfl, upd_same⟩⟩ ?_ ?_
    · rintro j H1 hj ⟨sm1, h1⟩
      obtain rfl : j = 0 := by omega
      have hD1 : H1 D0 = some (.lst []) := by
        rcases h1 with ⟨_, h⟩ | ⟨h, _⟩
        · exact h
        · exact absurd h (by decide)
      refine ⟨rfl, Nat.zero_le _, fun b nb => ?_⟩
      have nbD : D0 ≠ b := ne_of_none hD1 nb
      refine ⟨[], by rw [upd_ne nbD]; exact hD1, by show 0 < sizeLine; decide, fun b' o' e' => ?_, .inr ⟨rfl, b, nbD.symm, sm1.free nb, upd_same, ?_⟩⟩
      · rw [upd_ne (ne_of_none e' nD)]
        exact same_upd nb _ _ (sm1 _ _ e')
      · rw [upd_ne nbD.symm, upd_same]
    · rintro H1 ⟨sm1, h1⟩
      obtain ⟨b, nbD, nb, hD1, hb1⟩ : ∃ b, b ≠ D0 ∧ H b = none ∧ H1 D0 = some (.lst [.ref b]) ∧ H1 b = some (.lst []) := by
        rcases h1 with ⟨h, _⟩ | ⟨_, h⟩
        · exact absurd h (by decide)
        · exact h
      -- _law_left
      refine ⟨_, rfl, o, _, 0, _, rfl, rfl, SqT.of (sm1 _ _ ho), atI_nat (j := 0) rfl, (n : Int), rfl, RgOk.of_le (by decide) (by omega) (by decide) (by omega), fun F nF => ?_⟩
      rw [rg_ints]
      have smF : Same H1 (upd H1 F (.lst ((upto n).map V.int))) := same_upd nF
      have nDF : D0 ≠ F := ne_of_none hD1 nF
      have nbF : b ≠ F := ne_of_none hb1 nF
      have hF0 : H F = none := sm1.free nF
      have nRD : R ≠ D0 := ne_of_none hR nD
      have nRb : R ≠ b := ne_of_none hR nb
      have nRF : R ≠ F := ne_of_none hR hF0
      refine ⟨_, _, rfl, ?_⟩
      -- the loop
      refine ⟨_, rfl, o, _, 0, _, rfl, rfl, SqT.of (smF _ _ (sm1 _ _ ho)), atI_nat (j := 0) rfl, (n : Int), rfl, by omega, by omega, ?_⟩
      rw [Int.toNat_natCast]
      refine for_range (lo := 0) (n := n) (fun i σ H' => ∃ (x4 : Option V) (line left : List Int) (k g c : Int), σ = [some (.ref R), some (.ref o), some (.ref D0), some (.ref F), x4, none, none] ∧ SBut R H H' ∧ H' R = some (.lst (rowV S k g c)) ∧ 0 ≤ k ∧
        H' D0 = some (.lst [.ref b]) ∧ H' b = some (.lst (line.map V.int)) ∧ H' F = some (.lst (left.map V.int)) ∧ left.length + i = n ∧ line.length = i ∧ ∀ r ∈ picks (n - i) left, line ++ r ∈ picks n (upto n))
        ⟨none, [], upto n, k, g, c, rfl, SBut.of (sm1.trans smF), smF _ _ (sm1 _ _ hR), hk, smF _ _ hD1, smF _ _ hb1, upd_same, by rw [ints_len]; rfl, rfl, fun r hr => hr⟩ ?_ ?_
      · rintro i σ H2 hi ⟨x4, line, left, k, g, c, rfl, sb, hR2, hk2, hD2, hb2, hF2, hl1, hl2, hp⟩
        have ho2 : OffT H2 o n 1 := sb _ _ (ne_of ho hR (fun z => nomatch z)) ho
        have hS2 : SqL K H2 S (ns.map V.int) := sb.seq hR hS
        refine ⟨_, rfl, _, rfl, _, rfl, o, _, 1, _, rfl, rfl, SqT.of ho2, atI_nat (j := 1) rfl, R, S, k, g, c, _, ns, rfl, hR2, hk2, hS2, by decide, by decide, fun x k1 g1 c1 hx0 hx1 hk1 => ?_⟩
        obtain rfl : x = 0 := by omega
        have hD3 : (upd H2 R (.lst (rowV S k1 g1 c1))) D0 = some (.lst [.ref b]) := by rw [upd_ne nRD.symm]; exact hD2
        have hb3 : (upd H2 R (.lst (rowV S k1 g1 c1))) b = some (.lst (line.map V.int)) := by rw [upd_ne nRb.symm]; exact hb2
        have hF3 : (upd H2 R (.lst (rowV S k1 g1 c1))) F = some (.lst (left.map V.int)) := by rw [upd_ne nRF.symm]; exact hF2
        refine ⟨D0, _, 0, .ref b, rfl, rfl, SqL.of hD3, atI_nat (j := 0) rfl, .inl ⟨rfl, _, SqL.of hb3⟩, ?_⟩
        have hll : (1 : Int) ≤ ((left.map V.int).length : Nat) ∧ (((left.map V.int).length : Nat) : Int) ≤ 100 := by rw [List.length_map]; omega
        refine ⟨_, rfl, .inl ⟨rfl, _, SqL.of hF3⟩, _, rfl, _, rfl, F, _, rfl, .inl (SqL.of hF3), R, S, k1, g1, c1, _, ns, rfl, upd_same, hk1, seq_upd hR2 hS2, hll.1, hll.2, fun x k2 g2 c2 hx0 hx1 hk2 => ?_⟩
        rw [upd_upd]
        have hF4 : (upd H2 R (.lst (rowV S k2 g2 c2))) F = some (.lst (left.map V.int)) := by rw [upd_ne nRF.symm]; exact hF2
        have hb4 : (upd H2 R (.lst (rowV S k2 g2 c2))) b = some (.lst (line.map V.int)) := by rw [upd_ne nRb.symm]; exact hb2
        have hlt : x.toNat < left.length := by rw [List.length_map] at hx1; omega
        obtain ⟨y, hy⟩ : ∃ y, left[x.toNat]? = some y := ⟨left[x.toNat], List.getElem?_eq_getElem hlt⟩
        refine ⟨F, _, x, x.toNat, .int y, rfl, rfl, hF4, by omega, by have := hll.2; omega, (ixN_seq (ix_nat hx0 hx1)).1, by rw [List.getElem?_map, hy]; rfl, ?_⟩
        refine ⟨b, _, .int y, rfl, rfl, by rw [upd_ne nbF]; exact hb4, by rw [List.length_map, sizeLine_eq]; omega, some (.int (0 + (i : Nat))), line ++ [y], left.eraseIdx x.toNat, k2, g2, c2, rfl, SBut.put (SBut.put sb.row hF0) nb, ?_, hk2, ?_, ?_, ?_, ?_, ?_, fun r hr => ?_⟩
        · rw [upd_ne nRb, upd_ne nRF, upd_same]
        · rw [upd_ne nbD.symm, upd_ne nDF, upd_ne nRD.symm]
          exact hD2
        · rw [upd_same, List.map_append]
          rfl
        · rw [upd_ne nbF.symm, upd_same, erase_map]
        · rw [List.length_eraseIdx_of_lt hlt]
          omega
        · rw [List.length_append, hl2]
          rfl
        · rw [List.append_assoc]
          have e : n - i = (n - (i + 1)) + 1 := by omega
          rw [e] at hp
          exact hp _ (pick_step hy hr)
      · rintro σ H2 ⟨x4, line, left, k, g, c, rfl, sb, hR2, hk2, hD2, hb2, hF2, hl1, hl2, hp⟩
        have hin : line ∈ picks n (upto n) := by
          have := hp [] (by rw [Nat.sub_self]; exact List.mem_singleton.mpr rfl)
          rwa [List.append_nil] at this
        -- return tuple([tuple(line) for line in lines])
        refine ⟨_, rfl, D0, rfl, ⟨_, SqL.of hD2⟩, fun E0 nE => lc_list (K := K) (a := D0) (xs := [.ref b]) (fun j H' => Same H2 H' ∧ ∃ bs : List Addr, H' E0 = some (.lst (bs.map V.ref)) ∧ Paired (LineT H') bs ([line].take j))
          ⟨same_upd nE, [], upd_same, .nil⟩ (fun j H' _ z => SqL.of (z.1 _ _ hD2)) ?_ ?_⟩
        · rintro j y H3 hj ⟨sm3, bs, hE, pb⟩
          obtain rfl : j = 0 := by
            have := (List.getElem?_eq_some_iff.mp hj).1
            have e : [V.ref b].length = 1 := rfl
            omega
          obtain rfl : y = .ref b := (Option.some.inj hj).symm
          have pb' : bs = [] := by
            have := Paired.length pb
            exact List.eq_nil_of_length_eq_zero this
          subst pb'
          refine ⟨rfl, _, rfl, b, _, rfl, .inl ⟨SqL.of (sm3 _ _ hb2), fun u nu => ?_⟩⟩
          have smu : Same H3 (upd H3 u (.tup (line.map V.int))) := same_upd nu
          refine ⟨_, smu _ _ hE, by show 0 < sizeLine; decide, fun b' o' e' => ?_, [u], by rw [upd_same]; rfl, .cons ?_ .nil⟩
          · rw [upd_ne (ne_of_none e' nE)]
            exact smu _ _ (sm3 _ _ e')
          · show LineT _ u line
            exact keep_upd (smu _ _ hE) (fun xs z => nomatch z) _ _ upd_same
        · rintro H3 ⟨sm3, bs, hE, pb⟩
          refine ⟨E0, _, rfl, .inl ⟨SqL.of hE, fun p np => ?_⟩⟩
          have smp : Same H3 (upd H3 p (.tup (bs.map V.ref))) := same_upd np
          have smz := sm3.trans smp
          exact q _ p line k g c (sb.same smz) (smz _ _ hR2) hk2 ⟨bs, upd_same, Paired.mapP pb fun b' l' z => smp _ _ z⟩ hin
end
end CL

namespace CL
theorem chk1 : ∀ c, 1 ≤ c → c ≤ 4 → checkAll 1 c = true := by
  have h : ((List.range 5).all fun c => decide (c < 1) || checkAll 1 c) = true := by decide +kernel
  intro c h1 h2
  have q := List.all_eq_true.mp h c (List.mem_range.mpr (by omega))
  rw [Bool.or_eq_true, decide_eq_true_eq] at q
  exact q.resolve_left (by omega)
theorem chk2 : ∀ c, 2 ≤ c → c ≤ 4 → checkAll 2 c = true := by
  have h : ((List.range 5).all fun c => decide (c < 2) || checkAll 2 c) = true := by decide +kernel
  intro c h1 h2
  have q := List.all_eq_true.mp h c (List.mem_range.mpr (by omega))
  rw [Bool.or_eq_true, decide_eq_true_eq] at q
  exact q.resolve_left (by omega)
theorem chk33 : checkAll 3 3 = true := by decide +kernel
theorem chk34 : checkAll 3 4 = true := by decide +kernel
theorem chk {p c : Nat} (h1 : 1 ≤ p) (h3 : p ≤ 3) (h2 : p ≤ c) (h4 : c ≤ 4) : checkAll p c = true := by
  match p, c, h1, h3, h2, h4 with
  | 1, c, _, _, h2, h4 => exact chk1 c h2 h4
  | 2, c, _, _, h2, h4 => exact chk2 c h2 h4
  | 3, 3, _, _, _, _ => exact chk33
  | 3, 4, _, _, _, _ => exact chk34
  | 3, 0, _, _, h2, _ => exact absurd h2 (by decide)
  | 3, 1, _, _, h2, _ => exact absurd h2 (by decide)
  | 3, 2, _, _, h2, _ => exact absurd h2 (by decide)
  | 3, n + 5, _, _, _, h4 => exact absurd h4 (by omega)
  | 0, _, h1, _, _, _ => exact absurd h1 (by decide)
  | n + 4, _, _, h3, _, _ => exact absurd h3 (by omega)
end CL

namespace CL
open PySem PySem.Spec PyProof.Rows L2
section
variable {P : Program} {w : World} {K : PySem.W.Frag} {mg : Str → Option Value} {base : Heap}
/-- a product, a constant, said -/
def rMulE : R2 := fun x y H Q => ∃ i j k : Int, x = .int i ∧ y = .int j ∧ CMul i j ∧ i * j = k ∧ Q (.int k) H
theorem op_mulE {X : Cx} : OpR X (binaryOp .Mult) rMulE := by
  intro pins s σ H x y v u Q I rx ry h
  obtain ⟨i, j, k, ex, ey, hc, rfl, q⟩ := h
  exact op_mul pins s σ H x y v u Q I rx ry ⟨i, j, ex, ey, hc, q⟩
def tCE (i : Int) : TE := fun _ H Q => ∃ k : Int, i = k ∧ Q (.int k) H
theorem pe_intE {X : Cx} {i : Int} {j pos} : PE X (.Constant (.int i) j pos) (tCE i) := ⟨fun pins s σ H Q I h => by
  obtain ⟨k, rfl, q⟩ := h
  exact pe_int.run pins s σ H Q I q⟩
/-! ### what the check tells -/
theorem val_of {n c : Nat} {s : Sta} (h : valid n c s = true) : Val n c s ∧ s.flatten.length ≤ 100 := by
  unfold valid at h
  simp only [Bool.and_eq_true, decide_eq_true_eq, List.all_eq_true] at h
  obtain ⟨⟨⟨⟨⟨h1, h2⟩, h3⟩, h4⟩, h5⟩, h6⟩ := h
  exact ⟨⟨h1, h2, h3, h4, h5⟩, h6⟩
theorem ok_of {p c : Nat} (h : checkAll p c = true) : (∀ s ∈ lay p c, s ≠ [] ∧ Val p c s ∧ s.flatten.length ≤ 100) ∧ (lay p c).length ≤ 20000 ∧ layOk p c = true ∧ numSt p c ≤ 20000 := by
  unfold checkAll at h
  rw [Bool.and_eq_true] at h
  have h := h.1
  unfold okAll at h
  simp only [Bool.and_eq_true, decide_eq_true_eq, List.all_eq_true] at h
  obtain ⟨⟨⟨h1, h2⟩, h3⟩, h4⟩ := h
  refine ⟨fun s hs => ⟨fun e => ?_, val_of (h1 s hs).2⟩, h2, h3, h4⟩
  have := (h1 s hs).1
  rw [e] at this
  cases this
theorem check_of {p c : Nat} (h : checkAll p c = true) {order spots : List Int} (ho : order ∈ picks p (upto p)) (hs : spots ∈ drops (c - p) (upto c)) :
    Val p c (place order spots c) ∧ (place order spots c).flatten.length ≤ 100 ∧ fits (place order spots c) 1 = true ∧ ∃ t, reach p 1 20 [(place order spots c, 0)] [place order spots c] 0 = some t ∧ (t.length : Int) = due p c ∧
      (((lay p c).filter fun o => (lookT t o).isSome).length : Int) = due p c ∧ ∀ o ∈ lay p c, (lookT t o).isSome = true → o.flatten.contains (order.getD 0 0) = true ∧ rot order o = order := by
  unfold checkAll at h
  rw [Bool.and_eq_true] at h
  have h := List.all_eq_true.mp (List.all_eq_true.mp h.2 order ho) spots hs
  unfold check at h
  rw [Bool.and_eq_true, Bool.and_eq_true] at h
  obtain ⟨⟨h1, h2⟩, h3⟩ := h
  refine ⟨(val_of h1).1, (val_of h1).2, h2, ?_⟩
  cases e : reach p 1 20 [(place order spots c, 0)] [place order spots c] 0 with
  | none =>
    rw [e] at h3
    cases h3
  | some t =>
    rw [e] at h3
    simp only [Bool.and_eq_true, decide_eq_true_eq, List.all_eq_true] at h3
    obtain ⟨⟨h4, h5⟩, h6⟩ := h3
    exact ⟨t, rfl, h4, h5, fun o ho hl => h6 o (List.mem_filter.mpr ⟨ho, hl⟩)⟩
/-! ### more rules with the written part said -/
theorem ix_tupK {X : Cx} (h : X.K = K) : IxR X (rIxT K) := by subst h; exact ix_tup
theorem mt_indexK {X : Cx} (h : X.K = K) : MtR X "list.index" (rIndex K) := by subst h; exact mt_index
theorem call_listK {X : Cx} (h : X.K = K) : CallR X (.type "list") (fun xs H Q => ∃ p ys, xs = [.ref p] ∧ (SqL K H p ys ∨ SqT K H p ys) ∧ ∀ l, H l = none → Q (.ref l) (upd H l (.lst ys))) := by subst h; exact call_list_of
theorem op_neDK {X : Cx} (h : X.K = K) (hu : X.A.units + 64 < cLine) : OpR X (compareOp .NotEq) (rNeD K) := by subst h; exact op_neD hu
theorem pe_indexK {X : Cx} {o e : Expr} {to : TE} {t : TA} {apos cpos : Pos} (h : X.K = K) (ho : PE X o to) (ha : PA X [e] t)
    (hbase : attributeBase o "index" X.env (eval o X.env) = eval o X.env := by rfl)
    (hfew : ((backTo cpos (starEach [e] X.env)).all (fun x => !x.1) && (backToKw cpos (keywordEach [] X.env)).all (fun x => x.1.isSome)
      && decide (([e] : List Expr).length + ([] : List Keyword).length + (if ([] : List Keyword).isEmpty then 0 else 1) < 30)) = true := by rfl)
    (hline : (apos.endLine == cpos.line) = true := by rfl) (hs : starEach [e] X.env = (false, eval e X.env) :: starEach [] X.env := by rfl) (hplain : (backTo cpos (starEach [] X.env)).any (·.1) = false := by rfl) :
    PE X (.Call (.Attribute o "index" apos) [e] [] cpos) (tBM K "list" (rIndex K) to t) := by
  subst h
  exact pe_bm PySem.F.plainAttrs_list PySem.F.slot_list_index PySem.F.type_list_index mt_index ho ha hbase hfew hline hs hplain
/-- a sum, said -/
def rAddE : R2 := fun x y H Q => ∃ i j k : Int, x = .int i ∧ y = .int j ∧ i + j = k ∧ Q (.int k) H
theorem op_addE {X : Cx} : OpR X (binaryOp .Add) rAddE := by
  intro pins s σ H x y v u Q I rx ry h
  obtain ⟨i, j, k, ex, ey, rfl, q⟩ := h
  exact op_add pins s σ H x y v u Q I rx ry ⟨i, j, ex, ey, q⟩
/-! ### small mathematics -/
theorem upto_at {c j : Nat} (h : j < c) : (upto c)[j]? = some (j : Int) := by
  unfold upto
  rw [List.getElem?_map, List.getElem?_range h]
  rfl
def cellOf (order spots : List Int) (k : Int) : List Int := if spots.contains k then [order.getD (idx spots k) 0] else []
theorem place_eq (order spots : List Int) (c : Nat) : place order spots c = (upto c).map (cellOf order spots) := rfl
theorem idx_lt {l : List Int} {y : Int} (h : l.contains y = true) : idx l y < l.length := by
  obtain ⟨z, h1, _⟩ := idx_mem h
  exact (List.getElem?_eq_some_iff.mp h1).1
theorem choices_succ (p c : Nat) : choices (p + 1) c = (choices p c * ((c : Int) - (p : Int))).fdiv ((p : Int) + 1) := by
  unfold choices
  rw [foldl_range]
theorem eqv_ints (l : List Int) : PyData.eqv (.list (l.map .int)) (.list (l.map .int)) = true := by
  refine SeqAt.eqv_refl _ ?_
  rw [PyData.canLay0]
  induction l with
  | nil => rfl
  | cons x r ih => rw [List.map_cons, PyData.canLayAll0, ih]; rfl
theorem shaped_ints (l : List Int) : SeqAt.shaped (.list (l.map .int)) = true := by
  have h1 : PyData.canLayAll0 (l.map PyData.int) = true := by
    induction l with
    | nil => rfl
    | cons x r ih => rw [List.map_cons, PyData.canLayAll0, ih]; rfl
  unfold SeqAt.shaped
  rw [Bool.and_eq_true, decide_eq_true_eq, PyData.canLay0, PyData.depth, PySem.W.depth_ints]
  exact ⟨h1, by omega⟩
theorem flat_le {s : Sta} (i : Nat) : (s.take i).flatten.length ≤ s.flatten.length := by
  conv => rhs; rw [← List.take_append_drop i s, List.flatten_append, List.length_append]
  exact Nat.le_add_right _ _
theorem filter_take {α : Type} (f : α → Bool) {l : List α} {i : Nat} {x : α} (h : l[i]? = some x) : (l.take (i + 1)).filter f = (l.take i).filter f ++ if f x = true then [x] else [] := by
  have e : l.take (i + 1) = l.take i ++ [x] := by rw [List.take_add_one, h]; rfl
  rw [e, List.filter_append, List.filter_cons, List.filter_nil]
/-- a list of ints -/
abbrev ListT (H : Hp) (b : Addr) (l : List Int) : Prop := H b = some (.lst (l.map V.int))
/-! ### the law -/
abbrev lawN : List Str := ["_law_script", "_law_row", "_law_people", "_law_office", "_law_order", "_law_spots", "_law_state_here", "_law_choices", "_law_number", "_law_due", "_law_found", "_law_other", "_law_line", "_law_part", "_law_at", "_law_counter"]
theorem scLaw : FnScope lawN ["_law_script"] (defScope sLaw) := ⟨rfl, rfl, rfl, by decide +kernel, rfl, by decide +kernel, by decide +kernel⟩
def spLaw (K : PySem.W.Frag) : Sp := fun vs H Q _ => ∃ (a : Addr) (ns : List Int), vs = [.ref a] ∧ SqL K H a (ns.map V.int) ∧ ns.length ≤ 63 ∧ ∀ H', Q (.bl true) H'
theorem ok_law {f f1 f2 f3 f4 f5 : Addr} {fd fd1 fd2 fd3 fd4 fd5 : FuncData} (D : Dfn K mg "law" sLaw ["_law_script"] f fd) (D1 : Dfn K mg "_law_taken" sTaken ["_law_row", "_law_many"] f1 fd1) (D2 : Dfn K mg "_law_state" sDraw ["_law_row", "_law_office"] f2 fd2)
    (D3 : Dfn K mg "count_narrow" sCount ["office", "state", "limit"] f3 fd3) (D4 : Dfn K mg "states" sStates ["office"] f4 fd4) (D5 : Dfn K mg "narrow_distance" sNarrow ["office", "one", "other", "limit"] f5 fd5) (T : Txt mg)
    (G3 : FnOk P w K mg base CX0 5 f3 fd3 ["office", "state", "limit"] spCount) (G4 : FnOk P w K mg base CX0 4 f4 fd4 ["office"] spStates) (G5 : FnOk P w K mg base CX0 5 f5 fd5 ["office", "one", "other", "limit"] spNarrow) :
    FnOk P w K mg base CX0 6 f fd ["_law_script"] (spLaw K) := by
  have G1 : FnOk P w K mg base CX0 1 f1 fd1 ["_law_row", "_law_many"] (spTaken K) := ok_taken D1 T
  have G2 : FnOk P w K mg base CX0 2 f2 fd2 ["_law_row", "_law_office"] (spDraw K) := ok_draw D2 D1 T
  refine D.fn.ok scLaw (fun vs H Q E h => ?_) (fun cdv A outer s H vs Q E hr h => ?_)
  · obtain ⟨a, ns, rfl, _⟩ := h
    rfl
  · obtain ⟨a, ns, rfl, hS, hlen, q⟩ := h
    have nd := scLaw.nd
    have hr1 : Room 1 _ := hr.mono (by decide)
    have hr2 : Room 2 _ := hr.mono (by decide)
    have hr4 : Room 4 _ := hr.mono (by decide)
    refine ⟨_, pss_cons (ps_set (i := 1) nd rfl (.inl rfl) (pe_lst (pa_cons (pv 0) (pa_cons pe_int (pa_cons pe_int (pa_cons pe_int pa_nil))))))
      (pss_cons (ps_set (i := 2) nd rfl (.inl rfl) (pe_op op_addE pe_int (pe_call G1 hr1 (by rfl) D1.at_ D1.fn.kp D1.bi .nil pass0 (pa_cons (pv 1) (pa_cons pe_int pa_nil)))))
      (pss_cons (ps_set (i := 3) nd rfl (.inl rfl) (pe_tup (pa_cons (pv 2) (pa_cons (pe_op op_addE (pv 2) (pe_call G1 hr1 (by rfl) D1.at_ D1.fn.kp D1.bi .nil pass0 (pa_cons (pv 1) (pa_cons (pe_op op_sub pe_int (pv 2)) pa_nil)))) pa_nil))))
      (pss_cons (ps_asg (pe_tup (pa_cons (pe_ix ix_tup (pe_call G2 hr2 (by rfl) D2.at_ D2.fn.kp D2.bi .nil pass0 (pa_cons (pv 1) (pa_cons (pe_tup (pa_cons (pv 2) (pa_cons pe_int pa_nil))) pa_nil))) pe_int (fun _ _ => rfl))
          (pa_cons (pe_listRg rfl (by rfl) T.list (prg_1 (by rfl) T.range (pe_ix ix_tup (pv 3) pe_int (fun _ _ => rfl)))) pa_nil)))
        (pg_tup rfl (pgs_cons (pg_name (i := 4) nd rfl (.inr rfl)) (pgs_cons (pg_name (i := 5) nd rfl (.inr rfl)) pgs_nil))))
      (pss_cons (ps_while PassesOwn.never (pt_cmpR op_gt (pe_callB call_len_seq (by rfl) T.len PySem.boot_len (pa_cons (pv 5) pa_nil)) (pv 2) (nomark _))
        (pss_one (ps_expr (pe_bm PySem.F.plainAttrs_list PySem.F.slot_list_pop PySem.F.type_list_pop mt_popAt (pv 5)
          (pa_cons (pe_call G1 hr1 (by rfl) D1.at_ D1.fn.kp D1.bi .nil pass0 (pa_cons (pv 1) (pa_cons (pe_callB call_len_seq (by rfl) T.len PySem.boot_len (pa_cons (pv 5) pa_nil)) pa_nil))) pa_nil)))))
      (pss_cons (ps_set (i := 6) nd rfl (.inl rfl) (pe_callTy call_tuple_of (by rfl) T.tuple (by decide +kernel) (pa_cons (pe_lc (own := [("_law_counter", 15)]) rfl nd
          (pi_range1 (by rfl) T.range (pa_cons (pe_ix ix_tup (pv 3) pe_int (fun _ _ => rfl)) pa_nil)) (blkOk_by (N := lawN) (sc := defScope sLaw) (by decide +kernel))
          (fun _ _ _ _ _ => pg_name (i := 15) nd rfl (.inl rfl) (.inr rfl)) (fun _ _ _ _ _ => pts_nil)
          (fun _ _ _ _ _ => pe_ifExp (pt_cmpR (op_inK (K := K) rfl) (pv 15) (pv 5) rfl)
            (pe_tup (pa_cons (pe_ix (ix_tupK (K := K) rfl) (pv 4) (pe_indexK (K := K) rfl (pv 5) (pa_cons (pv 15) pa_nil)) (fun _ _ => rfl)) pa_nil)) (pe_tup pa_nil))) pa_nil)))
      (pss_cons (ps_set (i := 7) nd rfl (.inl rfl) pe_int)
      (pss_cons (ps_for PassesOwn.never rfl (pi_range1 (by rfl) T.range (pa_cons (pv 2) pa_nil)) (pg_name (i := 8) nd rfl (.inl rfl))
        (pss_one (ps_set (i := 7) nd rfl (.inl rfl) (pe_op op_fdivN (pe_op op_mul (pv 7) (pe_op op_sub (pe_ix ix_tup (pv 3) pe_int (fun _ _ => rfl)) (pv 8))) (pe_op op_add (pv 8) pe_int)))))
      (pss_cons (ps_set (i := 9) nd rfl (.inl rfl) (pe_ifExp (pt_cmpR op_lt (pv 2) (pe_ix ix_tup (pv 3) pe_int (fun _ _ => rfl)) (nomark _)) (pe_op op_mulE (pv 2) (pv 7)) pe_intE))
      (pss_cons (ps_if (pt_cmpR op_ne (pe_call G3 hr (by rfl) D3.at_ D3.fn.kp D3.bi .nil pass0 (pa_cons (pv 3) (pa_cons (pv 6) (pa_cons pe_int pa_nil)))) (pv 9) (nomark _)) (pss_one ps_never) pss_nil)
      (pss_cons (ps_set (i := 10) nd rfl (.inl rfl) (pe_lst pa_nil))
      (pss_cons (ps_for PassesOwn.never rfl (pi_list (pe_call G4 hr4 (by rfl) D4.at_ D4.fn.kp D4.bi .nil pass0 (pa_cons (pv 3) pa_nil))) (pg_name (i := 11) nd rfl (.inl rfl))
        (pss_one (ps_if (pt_cmpR op_notN (pe_call G5 hr (by rfl) D5.at_ D5.fn.kp D5.bi .nil pass0 (pa_cons (pv 3) (pa_cons (pv 6) (pa_cons (pv 11) (pa_cons pe_int pa_nil))))) pe_non (nomark _))
          (pss_cons (ps_set (i := 12) nd rfl (.inl rfl) (pe_lst pa_nil))
          (pss_cons (ps_for PassesOwn.never rfl (pi_tup (pv 11)) (pg_name (i := 13) nd rfl (.inl rfl))
            (pss_one (ps_set (i := 12) nd rfl (.inl rfl) (pe_op op_cat (pv 12) (pe_callTy call_list_of (by rfl) T.list (by decide +kernel) (pa_cons (pv 13) pa_nil))))))
          (pss_cons (ps_set (i := 14) nd rfl (.inr rfl) (pe_indexK (K := K) rfl (pv 12) (pa_cons (pe_ix ix_tup (pv 4) pe_int (fun _ _ => rfl)) pa_nil)))
          (pss_one (ps_expr (pe_bm PySem.F.plainAttrs_list PySem.F.slot_list_append PySem.F.type_list_append mt_append (pv 10)
            (pa_cons (pe_op op_cat (pe_slice sl_list (pv 12) (po_some (pv 14)) po_none) (pe_slice sl_list (pv 12) po_none (po_some (pv 14)))) pa_nil)))))))
          pss_nil)))
      (pss_cons (ps_set (i := 14) nd rfl (.inr rfl) pe_int)
      (pss_one (ps_ret (pe_and (pe_cmpR op_eq (pe_callB call_len_seq (by rfl) T.len PySem.boot_len (pa_cons (pv 10) pa_nil)) (pv 9) (nomark _))
        (pe_one (pe_cmpR (op_eqD (hu64 hr)) (pe_lc (own := [("_law_line", 12)]) rfl nd (pi_list (pv 10)) (blkOk_by (N := lawN) (sc := defScope sLaw) (by decide +kernel))
          (fun _ _ _ _ _ => pg_name (i := 12) nd rfl (.inl rfl) (.inr rfl))
          (fun _ _ _ _ _ => pts_one (pt_cmpR (op_neDK (K := K) rfl (hu64 hr)) (pv 12) (pe_callTy (call_listK (K := K) rfl) (by rfl) T.list (by decide +kernel) (pa_cons (pe_slice sl_tupU (pv 4) (po_some (pv 14)) po_none) pa_nil)) (nomark _)))
          (fun _ _ _ _ _ => pv 12)) (pe_lst pa_nil) (nomark _)))))))))))))))))), ?_⟩
    -- _law_row
    refine ⟨_, rfl, by show 4 ≤ sizeLine; decide, fun R nR => ?_⟩
    have sR : Same H (upd H R (.lst (rowV a 0 7075 0))) := same_upd nR
    have hS1 : SqL K (upd H R (.lst (rowV a 0 7075 0))) a (ns.map V.int) := sR.seq hS
    -- _law_people
    refine ⟨_, rfl, R, a, 0, 7075, 0, 3, ns, rfl, upd_same, by decide, hS1, by decide, by decide, fun x k1 g1 c1 hx0 hx3 hk1 => ?_⟩
    obtain ⟨p, hp, hp1, hp3⟩ : ∃ p : Nat, 1 + x = (p : Int) ∧ 1 ≤ p ∧ p ≤ 3 := ⟨(1 + x).toNat, by omega, by omega, by omega⟩
    refine ⟨1, x, (p : Int), rfl, rfl, hp, ?_⟩
    rw [upd_upd]
    -- _law_office
    have hS2 : SqL K (upd H R (.lst (rowV a k1 g1 c1))) a (ns.map V.int) := (same_upd nR).seq hS
    refine ⟨_, rfl, _, rfl, _, rfl, _, rfl, _, _, rfl, rfl, R, a, k1, g1, c1, _, ns, rfl, upd_same, hk1, hS2, by omega, by omega, fun y k2 g2 c2 hy0 hy1 hk2 => ?_⟩
    obtain ⟨c, hc, hpc, hc4⟩ : ∃ c : Nat, (p : Int) + y = (c : Int) ∧ p ≤ c ∧ c ≤ 4 := ⟨((p : Int) + y).toNat, by omega, by omega, by omega⟩
    refine ⟨_, _, (c : Int), rfl, rfl, hc, by show 2 ≤ sizeLine; decide, fun o no => ?_⟩
    rw [upd_upd] at no ⊢
    have hchk := chk hp1 hp3 hpc hc4
    obtain ⟨hL1, hL2, hL3, hL4⟩ := ok_of hchk
    have nRo : R ≠ o := ne_of_none upd_same no
    have s3 : Same H (upd (upd H R (.lst (rowV a k2 g2 c2))) o (.tup [.int (p : Int), .int (c : Int)])) := (same_upd nR).trans (same_upd no)
    have hR3 : (upd (upd H R (.lst (rowV a k2 g2 c2))) o (.tup [.int (p : Int), .int (c : Int)])) R = some (.lst (rowV a k2 g2 c2)) := by rw [upd_ne nRo, upd_same]
    have ho3 : OffT (upd (upd H R (.lst (rowV a k2 g2 c2))) o (.tup [.int (p : Int), .int (c : Int)])) o p c := upd_same
    generalize hH3 : upd (upd H R (.lst (rowV a k2 g2 c2))) o (.tup [.int (p : Int), .int (c : Int)]) = H3 at s3 hR3 ho3 ⊢
    -- _law_order, _law_spots
    refine ⟨_, rfl, _, rfl, by show 2 ≤ sizeLine; decide, fun o2 no2 => ?_⟩
    have s4 : Same H3 (upd H3 o2 (.tup [.int (p : Int), .int 1])) := same_upd no2
    refine ⟨R, a, o2, k2, g2, c2, p, ns, rfl, s4 _ _ hR3, hk2, (s3.trans s4).seq hS, upd_same, hp1, by omega, fun H5 st1 order k5 g5 c5 sb5 hR5 hk5 hst1 hord => ?_⟩
    have ho5 : OffT H5 o p c := sb5 _ _ nRo.symm (s4 _ _ ho3)
    have s5 : Same H H5 := fun b u e => sb5 _ _ (ne_of_none e nR) (s4 _ _ (s3 _ _ e))
    obtain ⟨as1, ht1, hp1'⟩ := hst1
    obtain ⟨ob, rfl, hob⟩ : ∃ ob, as1 = [ob] ∧ LineT H5 ob order := by
      cases hp1' with
      | cons h t => cases t; exact ⟨_, rfl, h⟩
    refine ⟨st1, _, 0, .ref ob, rfl, rfl, SqT.of ht1, atI_nat (j := 0) rfl, ?_⟩
    refine ⟨_, rfl, o, _, 1, _, rfl, rfl, SqT.of ho5, atI_nat (j := 1) rfl, (c : Int), rfl, RgOk.of_le (by decide) (by omega) (by decide) (by omega), fun Sp nSp => ?_⟩
    rw [rg_ints]
    have s6 : Same H5 (upd H5 Sp (.lst ((upto c).map V.int))) := same_upd nSp
    refine ⟨by show 2 ≤ sizeLine; decide, fun T2 nT2 => ?_⟩
    have s7 : Same (upd H5 Sp (.lst ((upto c).map V.int))) (upd (upd H5 Sp (.lst ((upto c).map V.int))) T2 (.tup [.ref ob, .ref Sp])) := same_upd nT2
    refine ⟨T2, _, rfl, SqT.of upd_same, rfl, _, _, rfl, _, _, rfl, rfl, ?_⟩
    have hR7 : (upd (upd H5 Sp (.lst ((upto c).map V.int))) T2 (.tup [.ref ob, .ref Sp])) R = some (.lst (rowV a k5 g5 c5)) := s7 _ _ (s6 _ _ hR5)
    have hSp7 : (upd (upd H5 Sp (.lst ((upto c).map V.int))) T2 (.tup [.ref ob, .ref Sp])) Sp = some (.lst ((upto c).map V.int)) := s7 _ _ upd_same
    have hob7 : LineT (upd (upd H5 Sp (.lst ((upto c).map V.int))) T2 (.tup [.ref ob, .ref Sp])) ob order := s7 _ _ (s6 _ _ hob)
    have ho7 : OffT (upd (upd H5 Sp (.lst ((upto c).map V.int))) T2 (.tup [.ref ob, .ref Sp])) o p c := s7 _ _ (s6 _ _ ho5)
    have sA : Same H (upd (upd H5 Sp (.lst ((upto c).map V.int))) T2 (.tup [.ref ob, .ref Sp])) := (s5.trans s6).trans s7
    have nSp0 : H Sp = none := s5.free nSp
    have nRSp : R ≠ Sp := ne_of_none hR5 nSp
    generalize upd (upd H5 Sp (.lst ((upto c).map V.int))) T2 (.tup [.ref ob, .ref Sp]) = H7 at hR7 hSp7 hob7 ho7 sA ⊢
    have holen : order.length = p := picks_len _ _ _ hord
    -- while len(_law_spots) > _law_people
    refine ⟨fun m σ H' => ∃ (spots : List Int) (k g cc : Int), σ = [some (.ref a), some (.ref R), some (.int (p : Int)), some (.ref o), some (.ref ob), some (.ref Sp), none, none, none, none, none, none, none, none, none, none] ∧
      Same H H' ∧ OffT H' o p c ∧ LineT H' ob order ∧ H' R = some (.lst (rowV a k g cc)) ∧ 0 ≤ k ∧ H' Sp = some (.lst (spots.map V.int)) ∧ p ≤ spots.length ∧ spots.length ≤ 4 ∧ m = spots.length ∧ ∀ z ∈ drops (spots.length - p) spots, z ∈ drops (c - p) (upto c),
      ⟨_, upto c, k5, g5, c5, rfl, sA, ho7, hob7, hR7, hk5, hSp7, by rw [ints_len]; exact hpc, by rw [ints_len]; exact hc4, rfl, fun z hz => by rw [ints_len] at hz; exact hz⟩, fun m σ H8 hW => ?_⟩
    obtain ⟨spots, k8, g8, c8, rfl, s8, ho8, hob8, hR8, hk8, hSp8, hl8, hl8', rfl, hd8⟩ := hW
    refine ⟨_, rfl, Sp, _, rfl, .inl (SqL.of hSp8), _, rfl, _, _, rfl, rfl, _, rfl, ?_⟩
    by_cases hgt : p < spots.length
    · rw [decide_eq_true (show (p : Int) < ((spots.map V.int).length : Nat) by rw [List.length_map]; omega)]
      refine iteT ⟨_, fun σ' H' hN => hN, ?_⟩
      have hll : (1 : Int) ≤ ((spots.map V.int).length : Nat) ∧ (((spots.map V.int).length : Nat) : Int) ≤ 100 := by rw [List.length_map]; omega
      refine ⟨_, rfl, .inl ⟨rfl, _, SqL.of hSp8⟩, _, rfl, _, rfl, Sp, _, rfl, .inl (SqL.of hSp8), R, a, k8, g8, c8, _, ns, rfl, hR8, hk8, s8.seq hS, hll.1, hll.2, fun x k9 g9 c9 hx0 hx1 hk9 => ?_⟩
      have hSp9 : (upd H8 R (.lst (rowV a k9 g9 c9))) Sp = some (.lst (spots.map V.int)) := by rw [upd_ne nRSp.symm]; exact hSp8
      have hlt : x.toNat < spots.length := by rw [List.length_map] at hx1; omega
      obtain ⟨z, hz⟩ : ∃ z, spots[x.toNat]? = some z := ⟨spots[x.toNat], List.getElem?_eq_getElem hlt⟩
      refine ⟨Sp, _, x, x.toNat, .int z, rfl, rfl, hSp9, by omega, by have := hll.2; omega, (ixN_seq (ix_nat hx0 hx1)).1, by rw [List.getElem?_map, hz]; rfl, ?_⟩
      have kR := keep_upd (o := .lst (rowV a k9 g9 c9)) hR8 (fun xs z => nomatch z)
      have kS := keep_upd (o := .lst ((spots.map V.int).eraseIdx x.toNat)) hSp9 (fun xs z => nomatch z)
      have elen : (spots.eraseIdx x.toNat).length = spots.length - 1 := List.length_eraseIdx_of_lt hlt
      refine ⟨(spots.eraseIdx x.toNat).length, by omega, spots.eraseIdx x.toNat, k9, g9, c9, rfl, same_put (same_put s8 nR) nSp0, kS _ _ (kR _ _ ho8), kS _ _ (kR _ _ hob8), by rw [upd_ne nRSp, upd_same], hk9, by rw [upd_same, erase_map], by omega, by omega, rfl, fun w hw => ?_⟩
      rw [elen] at hw
      have e : spots.length - p = (spots.length - 1 - p) + 1 := by omega
      rw [e] at hd8
      exact hd8 _ (drop_step hlt hw)
    · rw [decide_eq_false (show ¬ (p : Int) < ((spots.map V.int).length : Nat) by rw [List.length_map]; omega)]
      refine iteF ?_
      have hsl : spots.length = p := by omega
      have hsp : spots ∈ drops (c - p) (upto c) := hd8 _ (by rw [hsl, Nat.sub_self]; exact List.mem_singleton.mpr rfl)
      obtain ⟨va, hfl, hfit, t, hre, htl, hfil, hrot⟩ := check_of hchk hord hsp
      -- _law_state_here
      refine ⟨_, rfl, o, _, 1, _, rfl, rfl, SqT.of ho8, atI_nat (j := 1) rfl, (c : Int), rfl, by omega, by omega, fun E0 nE => ?_⟩
      rw [Int.toNat_natCast]
      refine lc_range (lo := 0) (n := c) (fun j H' => Same H8 H' ∧ ∃ bs : List Addr, H' E0 = some (.lst (bs.map V.ref)) ∧ Paired (LineT H') bs (((upto c).take j).map (cellOf order spots))) ⟨same_upd nE, [], upd_same, .nil⟩ ?_ ?_
      · rintro j H9 hj ⟨s9, bs, hE, pb⟩
        rw [show (0 : Int) + (j : Nat) = (j : Nat) by omega]
        have hSp9 : H9 Sp = some (.lst (spots.map V.int)) := s9 _ _ hSp8
        have etake : (upto c).take (j + 1) = (upto c).take j ++ [(j : Int)] := by rw [List.take_add_one, upto_at hj]; rfl
        have hbl : bs.length ≤ 4 := by
          rw [Paired.length pb, List.length_map, List.length_take, ints_len]
          omega
        have fin : ∀ (H10 : Hp) (u : Addr), Same H9 H10 → H9 u = none → H10 u = some (.tup ((cellOf order spots (j : Int)).map V.int)) → ∃ acc, H10 E0 = some (.lst acc) ∧ acc.length < sizeLine ∧ Same H8 (upd H10 E0 (.lst (acc ++ [.ref u]))) ∧
            ∃ bs : List Addr, (upd H10 E0 (.lst (acc ++ [.ref u]))) E0 = some (.lst (bs.map V.ref)) ∧ Paired (LineT (upd H10 E0 (.lst (acc ++ [.ref u])))) bs (((upto c).take (j + 1)).map (cellOf order spots)) := by
          intro H10 u s10 nu hu
          refine ⟨_, s10 _ _ hE, by rw [List.length_map, sizeLine_eq]; omega, fun b' o' e' => ?_, bs ++ [u], by rw [upd_same, List.map_append]; rfl, ?_⟩
          · rw [upd_ne (ne_of_none e' nE)]
            exact s10 _ _ (s9 _ _ e')
          · rw [etake, List.map_append]
            have kE := keep_upd (o := .lst (bs.map V.ref ++ [.ref u])) (s10 _ _ hE) (fun xs z => nomatch z)
            exact Paired.snoc (Paired.mapP pb fun b' l' z => kE _ _ (s10 _ _ z)) (kE _ _ hu)
        refine ⟨rfl, _, rfl, _, rfl, Sp, _, rfl, .inl (SqL.of hSp9), rfl, flat_ints spots, _, rfl, ?_⟩
        show if inV (.int (j : Nat)) (spots.map V.int) = true then _ else _
        rw [inV_ints]
        refine ite2 (fun hcn => ?_) (fun hcn => ?_)
        · obtain ⟨z, hz1, hz2⟩ := idx_mem hcn
          have hil := idx_lt hcn
          obtain ⟨w0, hw0⟩ : ∃ w0, order[idx spots (j : Int)]? = some w0 := ⟨order[idx spots (j : Int)]'(by omega), List.getElem?_eq_getElem _⟩
          refine ⟨_, rfl, _, rfl, .inl ⟨rfl, _, SqL.of hSp9⟩, _, rfl, Sp, _, .int (j : Nat), idx spots (j : Int), .int z, rfl, rfl, SqL.of hSp9, rfl, flat_ints spots, by rw [List.getElem?_map, hz1]; rfl, hz2, fun m z' hm hz' => ?_, ?_⟩
          · obtain ⟨z1, rfl, hz1'⟩ := ints_at hz'
            exact idx_first hm hz1'
          · refine ⟨ob, _, _, .int w0, rfl, rfl, SqT.of (s9 _ _ hob8), atI_nat (by rw [List.getElem?_map, hw0]; rfl), by show 1 ≤ sizeLine; decide, fun u nu => ?_⟩
            have ec : cellOf order spots (j : Int) = [w0] := by
              unfold cellOf
              rw [if_pos hcn, List.getD_eq_getElem?_getD, hw0]
              rfl
            have hu : (upd H9 u (.tup [.int w0])) u = some (.tup ((cellOf order spots (j : Int)).map V.int)) := by rw [upd_same, ec]; rfl
            exact fin _ u (same_upd nu) nu hu
        · refine ⟨Nat.zero_le _, fun u nu => ?_⟩
          have ec : cellOf order spots (j : Int) = [] := by
            unfold cellOf
            rw [if_neg hcn]
          have hu : (upd H9 u (.tup [])) u = some (.tup ((cellOf order spots (j : Int)).map V.int)) := by rw [upd_same, ec]; rfl
          exact fin _ u (same_upd nu) nu hu
      · rintro H9 ⟨s9, bs, hE, pb⟩
        refine ⟨E0, _, rfl, .inl ⟨SqL.of hE, fun h nh => ?_⟩⟩
        have sh : Same H9 (upd H9 h (.tup (bs.map V.ref))) := same_upd nh
        have ete : (upto c).take c = upto c := List.take_of_length_le (by rw [ints_len]; exact Nat.le_refl _)
        rw [ete, ← place_eq] at pb
        have hst : StT (upd H9 h (.tup (bs.map V.ref))) h (place order spots c) := ⟨bs, upd_same, Paired.mapP pb fun b' l' z => sh _ _ z⟩
        have s10 := s9.trans sh
        have hoA : OffT (upd H9 h (.tup (bs.map V.ref))) o p c := s10 _ _ ho8
        have hobA : LineT (upd H9 h (.tup (bs.map V.ref))) ob order := s10 _ _ hob8
        generalize upd H9 h (.tup (bs.map V.ref)) = HA at hst hoA hobA ⊢
        have hc6 : 1 ≤ c := Nat.le_trans hp1 hpc
        -- _law_choices
        refine ⟨_, rfl, (p : Int), rfl, by omega, by omega, ?_⟩
        rw [Int.toNat_natCast]
        refine for_range (lo := 0) (n := p) (fun k σ H' => ∃ x8 : Option V, σ = [some (.ref a), some (.ref R), some (.int (p : Int)), some (.ref o), some (.ref ob), some (.ref Sp), some (.ref h), some (.int (choices k c)), x8, none, none, none, none, none, none, none] ∧ H' = HA) ⟨none, rfl, rfl⟩ ?_ ?_
        · rintro k σ H1 hk ⟨x8, rfl, rfl⟩
          refine ⟨_, rfl, _, rfl, o, _, 1, _, rfl, rfl, SqT.of hoA, atI_nat (j := 1) rfl, _, rfl, _, _, rfl, rfl, _, _, rfl, rfl, .inr ⟨by omega, by omega⟩, _, rfl, _, _, rfl, rfl, _, _, rfl, rfl, ⟨by omega, by omega⟩, some (.int (0 + (k : Nat))), ?_, rfl⟩
          have e : choices (k + 1) c = (choices k c * ((c : Int) - (0 + (k : Nat)))).fdiv ((0 + (k : Nat)) + 1) := by
            rw [choices_succ, show (0 : Int) + (k : Nat) = (k : Nat) by omega]
          rw [e]
          rfl
        rintro σ H1 ⟨x8, rfl, rfl⟩
        -- _law_due
        have hdue : ∀ (σ : L2.St) (Q' : VK), σ[2]? = some (some (.int (p : Int))) → σ[3]? = some (some (.ref o)) → σ[7]? = some (some (.int (choices p c))) → Q' (.int (due p c)) H1 →
            tIf (tTest (tOp (rI0 fun i j => V.bl (decide (i < j))) (tVar 2) (tOp (rIxT K) (tVar 3) (tC (.int 1))))) (tOp rMulE (tVar 2) (tVar 7)) (tCE 1) σ H1 Q' := by
          intro σ Q' g2 g3 g7 hq'
          refine ⟨_, g2, _, g3, o, _, 1, _, rfl, rfl, SqT.of hoA, atI_nat (j := 1) rfl, _, _, rfl, rfl, _, rfl, ?_⟩
          by_cases hlt : p < c
          · rw [decide_eq_true (show (p : Int) < (c : Int) by omega)]
            refine iteT ⟨_, g2, _, g7, _, _, due p c, rfl, rfl, .inl ⟨by omega, by omega⟩, ?_, hq'⟩
            unfold due
            rw [if_pos hlt]
          · rw [decide_eq_false (show ¬ (p : Int) < (c : Int) by omega)]
            refine iteF ⟨due p c, ?_, hq'⟩
            unfold due
            rw [if_neg hlt]
        refine hdue _ _ rfl rfl rfl ?_
        clear hdue
        -- count_narrow
        refine ⟨_, rfl, _, rfl, o, h, p, c, 1, 20, place order spots c, t, rfl, hoA, hp1, by omega, hc6, by omega, hst, va, hfl, Nat.le_refl 1, hp1, hfit, hre, fun HB sB => ⟨_, rfl, rfl, _, rfl, ?_⟩⟩
        rw [decide_eq_true (show V.int (t.length : Nat) = V.int (due p c) by rw [htl])]
        refine iteF ?_
        -- _law_found, states
        refine ⟨Nat.zero_le _, fun Fd nFd => ?_⟩
        have sF : Same HB (upd HB Fd (.lst [])) := same_upd nFd
        refine ⟨_, rfl, o, p, c, rfl, (hoA.same sB).same sF, hp1, by omega, hc6, by omega, hL4, hL3, fun s hs => (hL1 s hs).1, hL2, fun HC Lp as ss sC pss hperm hLp => ?_⟩
        have sZ : Same H1 HC := (sB.trans sF).trans sC
        have hFC : HC Fd = some (.lst []) := sC _ _ upd_same
        have hmem : ∀ s ∈ ss, s ∈ lay p c := fun s hs => hperm.mem_iff.mp hs
        have hEq : Lp = Fd → as = [] ∧ ss = [] := fun e => by
          subst e
          rw [hFC] at hLp
          have e2 := HO.lst.inj (Option.some.inj hLp)
          have e3 : as = [] := by
            cases as with
            | nil => rfl
            | cons x r => cases e2
          subst e3
          exact ⟨rfl, List.eq_nil_of_length_eq_zero (by rw [← Paired.length pss]; rfl)⟩
        refine ⟨Lp, rfl, ⟨_, SqL.of hLp⟩, for_list (K := K) (a := Lp) (xs := as.map V.ref) (fun i σ H' => ∃ (x11 x12 x13 x14 : Option V) (fs : List Addr), σ = [some (.ref a), some (.ref R), some (.int (p : Int)), some (.ref o), some (.ref ob), some (.ref Sp), some (.ref h), some (.int (choices p c)), x8, some (.int (due p c)), some (.ref Fd), x11, x12, x13, x14, none] ∧
          SBut Fd HC H' ∧ H' Fd = some (.lst (fs.map V.ref)) ∧ Paired (fun f l => ListT H' f l ∧ f ≠ Fd) fs (((ss.take i).filter fun o => (lookT t o).isSome).map (rot order)))
          ⟨_, _, _, _, [], rfl, fun _ _ _ e => e, hFC, .nil⟩ ?hl ?hs ?hd⟩
        case hl =>
          rintro i σ H' _ ⟨_, _, _, _, fs, _, z, hz, pz⟩
          by_cases e : Lp = Fd
          · obtain ⟨e1, e2⟩ := hEq e
            subst e1 e2
            rw [List.take_nil] at pz
            have e3 : fs = [] := List.eq_nil_of_length_eq_zero (Paired.length pz)
            subst e3
            rw [e]
            exact SqL.of hz
          · exact SqL.of (z _ _ e hLp)
        case hs =>
          rintro i x σ HD hx ⟨x11, x12, x13, x14, fs, rfl, sb, hFd, pfs⟩
          obtain ⟨b, s0, rfl, hs0, hb⟩ := states_at (paired_keep (sb.ktu hFC) pss) hx
          have hs0m : s0 ∈ lay p c := hmem _ (List.mem_of_getElem? hs0)
          obtain ⟨_, v0, l0⟩ := hL1 _ hs0m
          have hoD : OffT HD o p c := (sb.ktu hFC) _ _ (sZ _ _ hoA)
          have hhD : StT HD h (place order spots c) := (hst.same sZ).keep (sb.ktu hFC)
          have hobD : LineT HD ob order := (sb.ktu hFC) _ _ (sZ _ _ hobA)
          refine ⟨_, rfl, _, rfl, _, rfl, o, h, b, p, c, 1, 20, place order spots c, s0, t, rfl, hoD, hp1, by omega, hc6, by omega, hhD, va, hfl, hb, v0, l0, Nat.le_refl 1, hp1, hfit, hre, fun HE sE => ?_⟩
          have hft := filter_take (fun o => (lookT t o).isSome) hs0
          have pfE : Paired (fun f l => ListT HE f l ∧ f ≠ Fd) fs (((ss.take i).filter fun o => (lookT t o).isSome).map (rot order)) := Paired.mapP pfs fun f l z => ⟨sE _ _ z.1, z.2⟩
          refine ⟨rfl, _, rfl, ?_⟩
          cases hlk : lookT t s0 with
          | none =>
            refine iteF ⟨some (.ref b), x12, x13, x14, fs, rfl, sb.same sE, sE _ _ hFd, ?_⟩
            rw [hft, hlk]
            exact (List.append_nil _).symm ▸ pfE
          | some dd =>
            have hsm : (lookT t s0).isSome = true := by rw [hlk]; rfl
            have hobE : LineT HE ob order := sE _ _ hobD
            obtain ⟨as2, hb1, hb2⟩ := hb.same sE
            have hFdE : HE Fd = some (.lst (fs.map V.ref)) := sE _ _ hFd
            obtain ⟨hcon, hro⟩ := hrot s0 hs0m hsm
            refine iteT ⟨Nat.zero_le _, fun l1 nl1 => ?_⟩
            have s1 : Same HE (upd HE l1 (.lst [])) := same_upd nl1
            refine ⟨_, rfl, b, rfl, ⟨_, SqT.of (s1 _ _ hb1)⟩, for_tup (K := K) (a := b) (xs := as2.map V.ref) (fun j σ H' => ∃ (l : Addr) (x13 : Option V), σ = [some (.ref a), some (.ref R), some (.int (p : Int)), some (.ref o), some (.ref ob), some (.ref Sp), some (.ref h), some (.int (choices p c)), x8, some (.int (due p c)), some (.ref Fd), some (.ref b), some (.ref l), x13, x14, none] ∧
              Same HE H' ∧ HE l = none ∧ ListT H' l (s0.take j).flatten) ⟨l1, x13, rfl, s1, nl1, upd_same⟩ (fun j σ H' _ ⟨_, _, _, z, _⟩ => SqT.of (z _ _ hb1)) ?_ ?_⟩
            · rintro j y σ HG hy ⟨l, x13', rfl, sG, nl, hl⟩
              obtain ⟨b3, ln, rfl, hln, hb3, _⟩ := line_at (Paired.mapP hb2 fun b' l' z => sG _ _ z) hy
              refine ⟨_, rfl, _, rfl, b3, _, rfl, .inr (SqT.of hb3), fun l2 nl2 => ?_⟩
              have s2 : Same HG (upd HG l2 (.lst (ln.map V.int))) := same_upd nl2
              have hfl := flat_take hln
              have hle := flat_le (s := s0) (j + 1)
              rw [hfl, List.length_append] at hle
              refine ⟨l, l2, _, _, rfl, rfl, s2 _ _ hl, upd_same, by rw [List.length_map, List.length_map, sizeLine_eq]; omega, fun l3 nl3 => ?_⟩
              have s3 := same_upd (o := .lst ((s0.take j).flatten.map V.int ++ ln.map V.int)) nl3
              have sA3 := (sG.trans s2).trans s3
              refine ⟨l3, some (.ref b3), rfl, sA3, (sG.trans s2).free nl3, ?_⟩
              show _ = _
              rw [upd_same, hfl, List.map_append]
            · rintro σ HG ⟨l, x13', rfl, sG, nl, hl⟩
              have ela : (as2.map V.ref).length = s0.length := by rw [List.length_map, Paired.length hb2]
              rw [ela, List.take_length] at hl
              obtain ⟨w0, hw0⟩ : ∃ w0, order[0]? = some w0 := ⟨order[0]'(by omega), List.getElem?_eq_getElem _⟩
              have ew : order.getD 0 0 = w0 := by rw [List.getD_eq_getElem?_getD, hw0]; rfl
              have ero : rot order s0 = s0.flatten.drop (idx s0.flatten w0) ++ s0.flatten.take (idx s0.flatten w0) := by unfold rot; rw [ew]
              rw [ew] at hcon
              obtain ⟨z, hz1, hz2⟩ := idx_mem hcon
              have hil : idx s0.flatten w0 ≤ (s0.flatten.map V.int).length := by rw [List.length_map]; exact Nat.le_of_lt (idx_lt hcon)
              have hlen : (s0.flatten.map V.int).length ≤ 100 := by rw [List.length_map]; exact l0
              refine ⟨_, rfl, .inl ⟨rfl, _, SqL.of hl⟩, _, rfl, ob, _, 0, .int w0, rfl, rfl, SqT.of (sG _ _ hobE), atI_nat (j := 0) (by rw [List.getElem?_map, hw0]; rfl), l, _, .int w0, idx s0.flatten w0, .int z, rfl, rfl, SqL.of hl, rfl, flat_ints _, by rw [List.getElem?_map, hz1]; rfl, hz2, fun m z' hm hz' => ?_, ?_⟩
              · obtain ⟨z1, rfl, hz1'⟩ := ints_at hz'
                exact idx_first hm hz1'
              generalize idx s0.flatten w0 = j0 at ero hz1 hil ⊢
              refine ⟨_, rfl, .inl ⟨rfl, _, SqL.of (sG _ _ hFdE)⟩, _, rfl, _, rfl, _, rfl, l, _, rfl, SqL.of hl, fun u1 nu1 => ?_⟩
              rw [cut_drop hil]
              have t1 : Same HG (upd HG u1 (.lst ((s0.flatten.map V.int).drop j0))) := same_upd nu1
              refine ⟨_, rfl, _, rfl, _, rfl, l, _, rfl, SqL.of (t1 _ _ hl), fun u2 nu2 => ?_⟩
              rw [cut_take hil]
              have t2 : Same (upd HG u1 (.lst ((s0.flatten.map V.int).drop j0))) _ := same_upd (o := .lst ((s0.flatten.map V.int).take j0)) nu2
              refine ⟨u1, u2, _, _, rfl, rfl, t2 _ _ upd_same, upd_same, by rw [List.length_drop, List.length_take, sizeLine_eq]; omega, fun u3 nu3 => ?_⟩
              have t3 := same_upd (o := .lst ((s0.flatten.map V.int).drop j0 ++ (s0.flatten.map V.int).take j0)) nu3
              have tA := ((sG.trans t1).trans t2).trans t3
              have hFu := tA _ _ hFdE
              have nFu3 : Fd ≠ u3 := ne_of_none (((sG.trans t1).trans t2) _ _ hFdE) nu3
              have hfsl : fs.length ≤ 20000 := by
                rw [Paired.length pfs, List.length_map]
                have e1 := List.length_filter_le (fun o => (lookT t o).isSome) (ss.take i)
                have e2 : (ss.take i).length ≤ ss.length := by rw [List.length_take]; exact Nat.min_le_right _ _
                have e3 := hperm.length_eq
                omega
              refine ⟨Fd, _, .ref u3, rfl, rfl, hFu, by rw [List.length_map, sizeLine_eq]; omega, some (.ref b), some (.ref l), x13', some (.int (j0 : Nat)), fs ++ [u3], rfl, (sb.same (sE.trans tA)).row, by rw [upd_same, List.map_append]; rfl, ?_⟩
              rw [hft, if_pos hsm, List.map_append]
              refine Paired.snoc (Paired.mapP pfE fun f l z => ⟨?_, z.2⟩) ⟨?_, nFu3.symm⟩
              · show upd _ _ _ _ = _
                rw [upd_ne z.2]
                exact tA _ _ z.1
              · show upd _ _ _ _ = _
                rw [upd_ne nFu3.symm, upd_same, ero, List.map_append, List.map_drop, List.map_take]
        case hd =>
          rintro σ HD ⟨x11, x12, x13, x14, fs, rfl, sb, hFd, pfs⟩
          have ela : (as.map V.ref).length = ss.length := by rw [List.length_map, Paired.length pss]
          rw [ela, List.take_length] at pfs
          have hfl2 : ((fs.map V.ref).length : Int) = due p c := by
            rw [List.length_map, Paired.length pfs, List.length_map, (hperm.filter _).length_eq]
            exact hfil
          have hlenl : fs.length ≤ 20000 := by
            have e1 := List.length_filter_le (fun o => (lookT t o).isSome) ss
            have e3 := hperm.length_eq
            rw [Paired.length pfs, List.length_map]
            omega
          have hobD : LineT HD ob order := (sb.ktu hFC) _ _ (sZ _ _ hobA)
          refine ⟨_, rfl, Fd, _, rfl, .inl (SqL.of hFd), _, rfl, rfl, true, bT (show V.int ((fs.map V.ref).length : Nat) = V.int (due p c) by rw [hfl2]), iteT ?_⟩
          refine ⟨_, rfl, Fd, rfl, ⟨_, SqL.of hFd⟩, fun E0 nE => lc_list (K := K) (a := Fd) (xs := fs.map V.ref) (fun j H' => Same HD H' ∧ H' E0 = some (.lst [])) ⟨same_upd nE, upd_same⟩ (fun j H' _ z => SqL.of (z.1 _ _ hFd)) ?_ ?_⟩
          · rintro j y HG hj ⟨sG, hE⟩
            obtain ⟨fb, l, rfl, hl, hfb⟩ : ∃ (fb : Addr) (l : List Int), y = .ref fb ∧ l = order ∧ ListT HD fb l := by
              rw [List.getElem?_map] at hj
              cases q' : fs[j]? with
              | none => rw [q'] at hj; cases hj
              | some fb =>
                rw [q'] at hj
                obtain ⟨l, e1, e2⟩ := paired_get pfs q'
                rw [List.getElem?_map] at e1
                cases q2 : (ss.filter fun o => (lookT t o).isSome)[j]? with
                | none => rw [q2] at e1; cases e1
                | some s0 =>
                  rw [q2] at e1
                  have e3 := List.mem_filter.mp (List.mem_of_getElem? q2)
                  exact ⟨fb, l, (Option.some.inj hj).symm, by rw [← Option.some.inj e1]; exact (hrot s0 (hmem _ e3.1) e3.2).2, e2.1⟩
            subst hl
            have hfbG := sG _ _ hfb
            refine ⟨rfl, _, rfl, _, rfl, _, rfl, 0, rfl, ob, _, rfl, sG _ _ hobD, fun x1 H2 s2 hx1 => ?_⟩
            have ecut : ∀ L : List V, cutV L (some (0 : Int)) none = L := fun L => cut_drop (k := 0) (Nat.zero_le _)
            rw [ecut] at hx1
            refine ⟨x1, _, rfl, .inr (SqT.of hx1), fun x2 nx2 => ?_⟩
            have s3 := same_upd (o := .lst (l.map V.int)) nx2
            have s23 := s2.trans s3
            refine ⟨.list (l.map .int), .list (l.map .int), .lst (SqL.of (s23 _ _ hfbG)) (dp_ints _), .lst (SqL.of upd_same) (dp_ints _), shaped_ints _, shaped_ints _, _, rfl, ?_⟩
            rw [eqv_ints]
            exact ⟨(sG.trans s2).trans s3, s23 _ _ hE⟩
          · rintro HG ⟨sG, hE⟩
            refine ⟨Nat.zero_le _, fun u nu => ?_⟩
            exact ⟨.list [], .list [], .lst (SqL.of (same_upd nu _ _ hE)) .nil, .lst (SqL.of upd_same) .nil, rfl, rfl, q _⟩
end
end CL

namespace CL
open PySem PySem.Spec PyProof.Rows L2
/-! ### what the top has written, the law's own head -/
theorem all_mk {l : PySem.W.OpenLaw} {w : World} {K : PySem.W.Frag} {h : Heap} {mg : Str → Option Value} {fa fI fN fT fO fL fS fC fA fM fZ fK fF fR fB fW fU fJ fD fQ : Addr} (X : K.In h) (G : h.Ns mainGlobals mg) (hfa : mg "law" = some (.ref fa))
    {odI anI odN anN odT anT odO anO odL anL odS anS odC anC odA anA odM anM odZ anZ odK anK odF anF odR anR odB anB odW anW odU anU odJ anJ odD anD odQ anQ : Option Addr} {slI slN slT slO slL slS slC slA slM slZ slK slF slR slB slW slU slJ slD slQ : Array (Option Value)} {ocI kVI dcI pmI cdI ctI ocN kVN dcN pmN cdN ctN ocT kVT dcT pmT cdT ctT ocO kVO dcO pmO cdO ctO ocL kVL dcL pmL cdL ctL ocS kVS dcS pmS cdS ctS ocC kVC dcC pmC cdC ctC ocA kVA dcA pmA cdA ctA ocM kVM dcM pmM cdM ctM ocZ kVZ dcZ pmZ cdZ ctZ ocK kVK dcK pmK cdK ctK ocF kVF dcF pmF cdF ctF ocR kVR dcR pmR cdR ctR ocB kVB dcB pmB cdB ctB ocW kVW dcW pmW cdW ctW ocU kVU dcU pmU cdU ctU ocJ kVJ dcJ pmJ cdJ ctJ ocD kVD dcD pmD cdD ctD ocQ kVQ dcQ pmQ cdQ ctQ : Value}
    (aI : PySem.W.nsIn K mainGlobals "is_integer" = some (some (.ref fI))) (lI : K.lookup fI = some ⟨ocI, odI, .func (PySem.W.fnOf "is_integer" "is_integer" (defArgs sInteger) (defBody sInteger) (defScope sInteger) .none kVI dcI pmI anI cdI ctI), slI⟩) (cI : PySem.W.codeIn K cdI "is_integer" = true) (kI : PySem.W.keepIn K (.ref fI) = true)
    (aN : PySem.W.nsIn K mainGlobals "is_in" = some (some (.ref fN))) (lN : K.lookup fN = some ⟨ocN, odN, .func (PySem.W.fnOf "is_in" "is_in" (defArgs sIn) (defBody sIn) (defScope sIn) .none kVN dcN pmN anN cdN ctN), slN⟩) (cN : PySem.W.codeIn K cdN "is_in" = true) (kN : PySem.W.keepIn K (.ref fN) = true)
    (aT : PySem.W.nsIn K mainGlobals "is_list" = some (some (.ref fT))) (lT : K.lookup fT = some ⟨ocT, odT, .func (PySem.W.fnOf "is_list" "is_list" (defArgs sList) (defBody sList) (defScope sList) .none kVT dcT pmT anT cdT ctT), slT⟩) (cT : PySem.W.codeIn K cdT "is_list" = true) (kT : PySem.W.keepIn K (.ref fT) = true)
    (aO : PySem.W.nsIn K mainGlobals "need_office" = some (some (.ref fO))) (lO : K.lookup fO = some ⟨ocO, odO, .func (PySem.W.fnOf "need_office" "need_office" (defArgs sOffice) (defBody sOffice) (defScope sOffice) .none kVO dcO pmO anO cdO ctO), slO⟩) (cO : PySem.W.codeIn K cdO "need_office" = true) (kO : PySem.W.keepIn K (.ref fO) = true)
    (aL : PySem.W.nsIn K mainGlobals "need_lines" = some (some (.ref fL))) (lL : K.lookup fL = some ⟨ocL, odL, .func (PySem.W.fnOf "need_lines" "need_lines" (defArgs sLines) (defBody sLines) (defScope sLines) .none kVL dcL pmL anL cdL ctL), slL⟩) (cL : PySem.W.codeIn K cdL "need_lines" = true) (kL : PySem.W.keepIn K (.ref fL) = true)
    (aS : PySem.W.nsIn K mainGlobals "need_state" = some (some (.ref fS))) (lS : K.lookup fS = some ⟨ocS, odS, .func (PySem.W.fnOf "need_state" "need_state" (defArgs sState) (defBody sState) (defScope sState) .none kVS dcS pmS anS cdS ctS), slS⟩) (cS : PySem.W.codeIn K cdS "need_state" = true) (kS : PySem.W.keepIn K (.ref fS) = true)
    (aC : PySem.W.nsIn K mainGlobals "counter_of" = some (some (.ref fC))) (lC : K.lookup fC = some ⟨ocC, odC, .func (PySem.W.fnOf "counter_of" "counter_of" (defArgs sCounter) (defBody sCounter) (defScope sCounter) .none kVC dcC pmC anC cdC ctC), slC⟩) (cC : PySem.W.codeIn K cdC "counter_of" = true) (kC : PySem.W.keepIn K (.ref fC) = true)
    (aA : PySem.W.nsIn K mainGlobals "all_states" = some (some (.ref fA))) (lA : K.lookup fA = some ⟨ocA, odA, .func (PySem.W.fnOf "all_states" "all_states" (defArgs sAll) (defBody sAll) (defScope sAll) .none kVA dcA pmA anA cdA ctA), slA⟩) (cA : PySem.W.codeIn K cdA "all_states" = true) (kA : PySem.W.keepIn K (.ref fA) = true)
    (aM : PySem.W.nsIn K mainGlobals "number_of_states" = some (some (.ref fM))) (lM : K.lookup fM = some ⟨ocM, odM, .func (PySem.W.fnOf "number_of_states" "number_of_states" (defArgs sNumber) (defBody sNumber) (defScope sNumber) .none kVM dcM pmM anM cdM ctM), slM⟩) (cM : PySem.W.codeIn K cdM "number_of_states" = true) (kM : PySem.W.keepIn K (.ref fM) = true)
    (aZ : PySem.W.nsIn K mainGlobals "states" = some (some (.ref fZ))) (lZ : K.lookup fZ = some ⟨ocZ, odZ, .func (PySem.W.fnOf "states" "states" (defArgs sStates) (defBody sStates) (defScope sStates) .none kVZ dcZ pmZ anZ cdZ ctZ), slZ⟩) (cZ : PySem.W.codeIn K cdZ "states" = true) (kZ : PySem.W.keepIn K (.ref fZ) = true)
    (aK : PySem.W.nsIn K mainGlobals "call_in" = some (some (.ref fK))) (lK : K.lookup fK = some ⟨ocK, odK, .func (PySem.W.fnOf "call_in" "call_in" (defArgs sCall) (defBody sCall) (defScope sCall) .none kVK dcK pmK anK cdK ctK), slK⟩) (cK : PySem.W.codeIn K cdK "call_in" = true) (kK : PySem.W.keepIn K (.ref fK) = true)
    (aF : PySem.W.nsIn K mainGlobals "fits_in" = some (some (.ref fF))) (lF : K.lookup fF = some ⟨ocF, odF, .func (PySem.W.fnOf "fits_in" "fits_in" (defArgs sFits) (defBody sFits) (defScope sFits) .none kVF dcF pmF anF cdF ctF), slF⟩) (cF : PySem.W.codeIn K cdF "fits_in" = true) (kF : PySem.W.keepIn K (.ref fF) = true)
    (aR : PySem.W.nsIn K mainGlobals "reached_within" = some (some (.ref fR))) (lR : K.lookup fR = some ⟨ocR, odR, .func (PySem.W.fnOf "reached_within" "reached_within" (defArgs sReach) (defBody sReach) (defScope sReach) .none kVR dcR pmR anR cdR ctR), slR⟩) (cR : PySem.W.codeIn K cdR "reached_within" = true) (kR : PySem.W.keepIn K (.ref fR) = true)
    (aB : PySem.W.nsIn K mainGlobals "need_limit" = some (some (.ref fB))) (lB : K.lookup fB = some ⟨ocB, odB, .func (PySem.W.fnOf "need_limit" "need_limit" (defArgs sLimit) (defBody sLimit) (defScope sLimit) .none kVB dcB pmB anB cdB ctB), slB⟩) (cB : PySem.W.codeIn K cdB "need_limit" = true) (kB : PySem.W.keepIn K (.ref fB) = true)
    (aW : PySem.W.nsIn K mainGlobals "narrow_distance" = some (some (.ref fW))) (lW : K.lookup fW = some ⟨ocW, odW, .func (PySem.W.fnOf "narrow_distance" "narrow_distance" (defArgs sNarrow) (defBody sNarrow) (defScope sNarrow) .none kVW dcW pmW anW cdW ctW), slW⟩) (cW : PySem.W.codeIn K cdW "narrow_distance" = true) (kW : PySem.W.keepIn K (.ref fW) = true)
    (aU : PySem.W.nsIn K mainGlobals "count_narrow" = some (some (.ref fU))) (lU : K.lookup fU = some ⟨ocU, odU, .func (PySem.W.fnOf "count_narrow" "count_narrow" (defArgs sCount) (defBody sCount) (defScope sCount) .none kVU dcU pmU anU cdU ctU), slU⟩) (cU : PySem.W.codeIn K cdU "count_narrow" = true) (kU : PySem.W.keepIn K (.ref fU) = true)
    (aJ : PySem.W.nsIn K mainGlobals "_law_taken" = some (some (.ref fJ))) (lJ : K.lookup fJ = some ⟨ocJ, odJ, .func (PySem.W.fnOf "_law_taken" "_law_taken" (defArgs sTaken) (defBody sTaken) (defScope sTaken) .none kVJ dcJ pmJ anJ cdJ ctJ), slJ⟩) (cJ : PySem.W.codeIn K cdJ "_law_taken" = true) (kJ : PySem.W.keepIn K (.ref fJ) = true)
    (aD : PySem.W.nsIn K mainGlobals "_law_state" = some (some (.ref fD))) (lD : K.lookup fD = some ⟨ocD, odD, .func (PySem.W.fnOf "_law_state" "_law_state" (defArgs sDraw) (defBody sDraw) (defScope sDraw) .none kVD dcD pmD anD cdD ctD), slD⟩) (cD : PySem.W.codeIn K cdD "_law_state" = true) (kD : PySem.W.keepIn K (.ref fD) = true)
    (aQ : PySem.W.nsIn K mainGlobals "law" = some (some (.ref fQ))) (lQ : K.lookup fQ = some ⟨ocQ, odQ, .func (PySem.W.fnOf "law" "law" (defArgs sLaw) (defBody sLaw) (defScope sLaw) .none kVQ dcQ pmQ anQ cdQ ctQ), slQ⟩) (cQ : PySem.W.codeIn K cdQ "law" = true) (kQ : PySem.W.keepIn K (.ref fQ) = true)
    (z0 : PySem.W.nsIn K mainGlobals "isinstance" = some none) (z1 : PySem.W.nsIn K mainGlobals "int" = some none) (z2 : PySem.W.nsIn K mainGlobals "bool" = some none) (z3 : PySem.W.nsIn K mainGlobals "tuple" = some none) (z4 : PySem.W.nsIn K mainGlobals "len" = some none) (z5 : PySem.W.nsIn K mainGlobals "enumerate" = some none) (z6 : PySem.W.nsIn K mainGlobals "range" = some none) (z7 : PySem.W.nsIn K mainGlobals "sorted" = some none) (z8 : PySem.W.nsIn K mainGlobals "list" = some none) (z9 : PySem.W.nsIn K mainGlobals "all" = some none)
    {t7 t6 tm : _} (m7 : PySem.W.nsIn K mainGlobals "MOST_PEOPLE" = some (some (.int 7 t7))) (m6 : PySem.W.nsIn K mainGlobals "MOST_COUNTERS" = some (some (.int 6 t6))) (mm : PySem.W.nsIn K mainGlobals "MOST_STATES" = some (some (.int 20000 tm))) :
    ∃ fd : FuncData, (∀ (s : Shared) (v : Value), BindsTo s fd ⟨[v], []⟩ [("_law_script", v)]) ∧ ∀ base : Heap, K.In base → base.Ns mainGlobals mg → FnOk l.prog w K mg base CX0 6 fa fd ["_law_script"] (spLaw K) := by
  have e := hfa.symm.trans (PySem.W.mg_of X G aQ)
  cases e
  have T : Txt mg := ⟨PySem.W.mg_none_of X G z0, PySem.W.mg_none_of X G z1, PySem.W.mg_none_of X G z2, PySem.W.mg_none_of X G z3, PySem.W.mg_none_of X G z4, PySem.W.mg_none_of X G z5, PySem.W.mg_none_of X G z6, PySem.W.mg_none_of X G z7, PySem.W.mg_none_of X G z8, PySem.W.mg_none_of X G z9, ⟨_, PySem.W.mg_of X G m7⟩, ⟨_, PySem.W.mg_of X G m6⟩, ⟨_, PySem.W.mg_of X G mm⟩⟩
  have FI := fun_mk (st := sInteger) lI cI kI
  have DI : Dfn K mg "is_integer" sInteger ["value"] fI _ := ⟨FI, PySem.W.mg_of X G aI, FI.binds (ps := ["value"]) fun _ _ _ _ _ _ us hl => match us, hl with | [_], _ => rfl⟩
  have FN := fun_mk (st := sIn) lN cN kN
  have DN : Dfn K mg "is_in" sIn ["value", "least", "most"] fN _ := ⟨FN, PySem.W.mg_of X G aN, FN.binds (ps := ["value", "least", "most"]) fun _ _ _ _ _ _ us hl => match us, hl with | [_, _, _], _ => rfl⟩
  have FT := fun_mk (st := sList) lT cT kT
  have DT : Dfn K mg "is_list" sList ["value", "least", "most"] fT _ := ⟨FT, PySem.W.mg_of X G aT, FT.binds (ps := ["value", "least", "most"]) fun _ _ _ _ _ _ us hl => match us, hl with | [_, _, _], _ => rfl⟩
  have FO := fun_mk (st := sOffice) lO cO kO
  have DO : Dfn K mg "need_office" sOffice ["office"] fO _ := ⟨FO, PySem.W.mg_of X G aO, FO.binds (ps := ["office"]) fun _ _ _ _ _ _ us hl => match us, hl with | [_], _ => rfl⟩
  have FL := fun_mk (st := sLines) lL cL kL
  have DL : Dfn K mg "need_lines" sLines ["office", "state"] fL _ := ⟨FL, PySem.W.mg_of X G aL, FL.binds (ps := ["office", "state"]) fun _ _ _ _ _ _ us hl => match us, hl with | [_, _], _ => rfl⟩
  have FS := fun_mk (st := sState) lS cS kS
  have DS : Dfn K mg "need_state" sState ["office", "state"] fS _ := ⟨FS, PySem.W.mg_of X G aS, FS.binds (ps := ["office", "state"]) fun _ _ _ _ _ _ us hl => match us, hl with | [_, _], _ => rfl⟩
  have FC := fun_mk (st := sCounter) lC cC kC
  have DC : Dfn K mg "counter_of" sCounter ["state", "person"] fC _ := ⟨FC, PySem.W.mg_of X G aC, FC.binds (ps := ["state", "person"]) fun _ _ _ _ _ _ us hl => match us, hl with | [_, _], _ => rfl⟩
  have FA := fun_mk (st := sAll) lA cA kA
  have DA : Dfn K mg "all_states" sAll ["office"] fA _ := ⟨FA, PySem.W.mg_of X G aA, FA.binds (ps := ["office"]) fun _ _ _ _ _ _ us hl => match us, hl with | [_], _ => rfl⟩
  have FM := fun_mk (st := sNumber) lM cM kM
  have DM : Dfn K mg "number_of_states" sNumber ["office"] fM _ := ⟨FM, PySem.W.mg_of X G aM, FM.binds (ps := ["office"]) fun _ _ _ _ _ _ us hl => match us, hl with | [_], _ => rfl⟩
  have FZ := fun_mk (st := sStates) lZ cZ kZ
  have DZ : Dfn K mg "states" sStates ["office"] fZ _ := ⟨FZ, PySem.W.mg_of X G aZ, FZ.binds (ps := ["office"]) fun _ _ _ _ _ _ us hl => match us, hl with | [_], _ => rfl⟩
  have FK := fun_mk (st := sCall) lK cK kK
  have DK : Dfn K mg "call_in" sCall ["state", "person"] fK _ := ⟨FK, PySem.W.mg_of X G aK, FK.binds (ps := ["state", "person"]) fun _ _ _ _ _ _ us hl => match us, hl with | [_, _], _ => rfl⟩
  have FF := fun_mk (st := sFits) lF cF kF
  have DF : Dfn K mg "fits_in" sFits ["state", "limit"] fF _ := ⟨FF, PySem.W.mg_of X G aF, FF.binds (ps := ["state", "limit"]) fun _ _ _ _ _ _ us hl => match us, hl with | [_, _], _ => rfl⟩
  have FR := fun_mk (st := sReach) lR cR kR
  have DR : Dfn K mg "reached_within" sReach ["office", "state", "limit", "barred"] fR _ := ⟨FR, PySem.W.mg_of X G aR, FR.binds (ps := ["office", "state", "limit", "barred"]) fun _ _ _ _ _ _ us hl => match us, hl with | [_, _, _, _], _ => rfl⟩
  have FB := fun_mk (st := sLimit) lB cB kB
  have DB : Dfn K mg "need_limit" sLimit ["office", "limit"] fB _ := ⟨FB, PySem.W.mg_of X G aB, FB.binds (ps := ["office", "limit"]) fun _ _ _ _ _ _ us hl => match us, hl with | [_, _], _ => rfl⟩
  have FW := fun_mk (st := sNarrow) lW cW kW
  have DW : Dfn K mg "narrow_distance" sNarrow ["office", "one", "other", "limit"] fW _ := ⟨FW, PySem.W.mg_of X G aW, FW.binds (ps := ["office", "one", "other", "limit"]) fun _ _ _ _ _ _ us hl => match us, hl with | [_, _, _, _], _ => rfl⟩
  have FU := fun_mk (st := sCount) lU cU kU
  have DU : Dfn K mg "count_narrow" sCount ["office", "state", "limit"] fU _ := ⟨FU, PySem.W.mg_of X G aU, FU.binds (ps := ["office", "state", "limit"]) fun _ _ _ _ _ _ us hl => match us, hl with | [_, _, _], _ => rfl⟩
  have FJ := fun_mk (st := sTaken) lJ cJ kJ
  have DJ : Dfn K mg "_law_taken" sTaken ["_law_row", "_law_many"] fJ _ := ⟨FJ, PySem.W.mg_of X G aJ, FJ.binds (ps := ["_law_row", "_law_many"]) fun _ _ _ _ _ _ us hl => match us, hl with | [_, _], _ => rfl⟩
  have FD := fun_mk (st := sDraw) lD cD kD
  have DD : Dfn K mg "_law_state" sDraw ["_law_row", "_law_office"] fD _ := ⟨FD, PySem.W.mg_of X G aD, FD.binds (ps := ["_law_row", "_law_office"]) fun _ _ _ _ _ _ us hl => match us, hl with | [_, _], _ => rfl⟩
  have FQ := fun_mk (st := sLaw) lQ cQ kQ
  have DQ : Dfn K mg "law" sLaw ["_law_script"] fa _ := ⟨FQ, PySem.W.mg_of X G aQ, FQ.binds (ps := ["_law_script"]) fun _ _ _ _ _ _ us hl => match us, hl with | [_], _ => rfl⟩
  refine ⟨PySem.W.fnOf "law" "law" (defArgs sLaw) (defBody sLaw) (defScope sLaw) .none kVQ dcQ pmQ anQ cdQ ctQ, fun s v => .of_eq rfl, fun base _ _ => ?_⟩
  have GN := ok_in (P := l.prog) (w := w) (base := base) DN DI T
  have GO := ok_office (P := l.prog) (w := w) (base := base) DO DI DN DT T
  have GL := ok_lines (P := l.prog) (w := w) (base := base) DL DI DN DT T
  have GS := ok_state DS DO DL GO GL
  have GF := ok_fits (P := l.prog) (w := w) (base := base) DF T
  have GR := ok_reach (P := l.prog) (w := w) (base := base) DR DC DK DF T
  have GB := ok_limit DB DN GN
  have GW := ok_narrow DW DS DL DB DF DR GS GL GB GF GR
  have GU := ok_count DU DS DB DF DR T GS GB GF GR
  have GZ := ok_states DZ DO DM DA GO T
  exact ok_law DQ DJ DD DU DZ DW T GU GZ GW
end CL

open PySem PySem.W PyProof.Rows
set_option maxHeartbeats 0 in
theorem PySem.Challenge.cw_counterlines_k75_whole_single_places_holds : PySem.Challenge.rw_counterlines_k75_whole_single_places.Holds := by
  w_on; o_law; k_head; (case hw => w_witness2)
  k_fill
  refine L2.walk_of (l := PySem.Challenge.rw_counterlines_k75_whole_single_places) (n := 63) (k := 6) (x := "_law_script") (CX := fun _ => L2.CX0) (sp := fun w => CL.spLaw _) rfl (by decide) rfl ⟨rfl, by decide, by decide⟩ (fun w h Y => PySem.W.kIn_of Y) ?F (fun _ _ a ns hl _ hS => ⟨a, ns, rfl, hS, hl, fun _ => rfl⟩) (fun _ _ _ _ _ h => h)
  case F =>
    intro w mg fa h KX G hmg
    refine' CL.all_mk KX G hmg ?aI ?lI ?cI ?kI ?aN ?lN ?cN ?kN ?aT ?lT ?cT ?kT ?aO ?lO ?cO ?kO ?aL ?lL ?cL ?kL ?aS ?lS ?cS ?kS ?aC ?lC ?cC ?kC ?aA ?lA ?cA ?kA ?aM ?lM ?cM ?kM ?aZ ?lZ ?cZ ?kZ ?aK ?lK ?cK ?kK ?aF ?lF ?cF ?kF ?aR ?lR ?cR ?kR ?aB ?lB ?cB ?kB ?aW ?lW ?cW ?kW ?aU ?lU ?cU ?kU ?aJ ?lJ ?cJ ?kJ ?aD ?lD ?cD ?kD ?aQ ?lQ ?cQ ?kQ ?z0 ?z1 ?z2 ?z3 ?z4 ?z5 ?z6 ?z7 ?z8 ?z9 ?m7 ?m6 ?mm
    (case aI => k_is)
    (case lI => k_is)
    (case cI => k_is)
    (case kI => k_is)
    (case aN => k_is)
    (case lN => k_is)
    (case cN => k_is)
    (case kN => k_is)
    (case aT => k_is)
    (case lT => k_is)
    (case cT => k_is)
    (case kT => k_is)
    (case aO => k_is)
    (case lO => k_is)
    (case cO => k_is)
    (case kO => k_is)
    (case aL => k_is)
    (case lL => k_is)
    (case cL => k_is)
    (case kL => k_is)
    (case aS => k_is)
    (case lS => k_is)
    (case cS => k_is)
    (case kS => k_is)
    (case aC => k_is)
    (case lC => k_is)
    (case cC => k_is)
    (case kC => k_is)
    (case aA => k_is)
    (case lA => k_is)
    (case cA => k_is)
    (case kA => k_is)
    (case aM => k_is)
    (case lM => k_is)
    (case cM => k_is)
    (case kM => k_is)
    (case aZ => k_is)
    (case lZ => k_is)
    (case cZ => k_is)
    (case kZ => k_is)
    (case aK => k_is)
    (case lK => k_is)
    (case cK => k_is)
    (case kK => k_is)
    (case aF => k_is)
    (case lF => k_is)
    (case cF => k_is)
    (case kF => k_is)
    (case aR => k_is)
    (case lR => k_is)
    (case cR => k_is)
    (case kR => k_is)
    (case aB => k_is)
    (case lB => k_is)
    (case cB => k_is)
    (case kB => k_is)
    (case aW => k_is)
    (case lW => k_is)
    (case cW => k_is)
    (case kW => k_is)
    (case aU => k_is)
    (case lU => k_is)
    (case cU => k_is)
    (case kU => k_is)
    (case aJ => k_is)
    (case lJ => k_is)
    (case cJ => k_is)
    (case kJ => k_is)
    (case aD => k_is)
    (case lD => k_is)
    (case cD => k_is)
    (case kD => k_is)
    (case aQ => k_is)
    (case lQ => k_is)
    (case cQ => k_is)
    (case kQ => k_is)
    (case z0 => k_is)
    (case z1 => k_is)
    (case z2 => k_is)
    (case z3 => k_is)
    (case z4 => k_is)
    (case z5 => k_is)
    (case z6 => k_is)
    (case z7 => k_is)
    (case z8 => k_is)
    (case z9 => k_is)
    (case m7 => k_is)
    (case m6 => k_is)
    (case mm => k_is)
