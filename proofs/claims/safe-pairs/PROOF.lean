import PyProof.Rows.All
import Wide.All
import OpenK.AllK
import Wide.FinOn
import HandS.ForMost
import HandS.Defaults
import HandS.IsInst
import HandS.FStr
import HandS.DictComp
import HandS.SetKeys
import HandS.TupAny
import HandS.Exc
import HandS.Zip
import HandS.RevRange
import HandS.IterVal
import HandS.Deep
import HandS.Walk
import HandS.Codes
import HandS.Flow
import KE.GoesMore
import KE.GoesZip
import KE.KSuper
import KE.KStateDown
import Lean
import HandS.Base
import HandS.Call
import HandS.Ends
import HandS.More
import HandS.Words
import HandS.WordsExc
import HandS.Head0
import HandS.Head1
import HandS.Head2
import HandS.HeadEnd
import HandS.HeadHook1
import HandS.HeadHook2
import PySem.Challenge.RW_forkflags_k34_whole_safe_pairs
set_option linter.all false
/-! The plain law: trees of names, ways, flags, boards, told, turns. No program here. -/
namespace Fk
open PySem

inductive Tr where
  | leaf (x : Str)
  | fork (l r : Tr)

def Tr.leaves : Tr → List Str
  | .leaf x => [x]
  | .fork l r => l.leaves ++ r.leaves
def Tr.height : Tr → Nat
  | .leaf _ => 0
  | .fork l r => max l.height r.height + 1
def Tr.size : Tr → Nat
  | .leaf _ => 1
  | .fork l r => l.size + r.size + 1
theorem Tr.leaves_pos : ∀ t : Tr, 0 < t.leaves.length
  | .leaf _ => by simp [Tr.leaves]
  | .fork l r => by have := l.leaves_pos; simp [Tr.leaves]; omega
theorem Tr.height_lt : ∀ t : Tr, t.height < t.leaves.length
  | .leaf _ => by simp [Tr.leaves, Tr.height]
  | .fork l r => by
    have h1 := l.height_lt
    have h2 := r.height_lt
    have h3 := l.leaves_pos
    have h4 := r.leaves_pos
    simp only [Tr.leaves, Tr.height, List.length_append]
    omega

/-- names with their ways, from left to right -/
def Tr.ways : Tr → List Bool → List (Str × List Bool)
  | .leaf x, w => [(x, w)]
  | .fork l r, w => l.ways (w ++ [false]) ++ r.ways (w ++ [true])
theorem Tr.ways_names : ∀ (t : Tr) (w : List Bool), (t.ways w).map (·.1) = t.leaves
  | .leaf _, _ => rfl
  | .fork l r, w => by simp [Tr.ways, Tr.leaves, l.ways_names, r.ways_names]
def Tr.forks : Tr → List Bool → List (List Bool)
  | .leaf _, _ => []
  | .fork l r, w => w :: (l.forks (w ++ [false]) ++ r.forks (w ++ [true]))
/-- subtree at a place -/
def Tr.sub : Tr → List Bool → Option Tr
  | t, [] => some t
  | .leaf _, _ :: _ => none
  | .fork l r, b :: w => (if b then r else l).sub w
theorem Tr.sub_nil (t : Tr) : t.sub [] = some t := by cases t <;> rfl
theorem Tr.sub_append : ∀ (t : Tr) (w v : List Bool), t.sub (w ++ v) = (t.sub w).bind fun u => u.sub v
  | t, [], v => by simp [Tr.sub_nil]
  | .leaf _, _ :: _, v => rfl
  | .fork l r, b :: w, v => by
    show (if b then r else l).sub (w ++ v) = ((if b then r else l).sub w).bind _
    exact Tr.sub_append _ w v
theorem Tr.mem_ways : ∀ (t : Tr) (w : List Bool) (x : Str) (p : List Bool), (x, p) ∈ t.ways w ↔ ∃ v, p = w ++ v ∧ t.sub v = some (.leaf x)
  | .leaf y, w, x, p => by
    constructor
    · intro h
      simp only [Tr.ways, List.mem_singleton, Prod.mk.injEq] at h
      exact ⟨[], by simp [h.2], by rw [h.1]; rfl⟩
    · rintro ⟨v, rfl, h⟩
      cases v with
      | nil => cases h; simp [Tr.ways]
      | cons b v => cases h
  | .fork l r, w, x, p => by
    simp only [Tr.ways, List.mem_append, Tr.mem_ways l, Tr.mem_ways r]
    constructor
    · rintro (⟨v, rfl, h⟩ | ⟨v, rfl, h⟩)
      · exact ⟨false :: v, by simp, h⟩
      · exact ⟨true :: v, by simp, h⟩
    · rintro ⟨v, rfl, h⟩
      cases v with
      | nil => cases h
      | cons b v =>
        cases b with
        | false => exact .inl ⟨v, by simp, h⟩
        | true => exact .inr ⟨v, by simp, h⟩
theorem Tr.mem_forks : ∀ (t : Tr) (w p : List Bool), p ∈ t.forks w ↔ ∃ v, p = w ++ v ∧ ∃ l r, t.sub v = some (.fork l r)
  | .leaf y, w, p => by
    constructor
    · intro h; simp [Tr.forks] at h
    · rintro ⟨v, rfl, l, r, h⟩
      cases v with
      | nil => cases h
      | cons b v => cases h
  | .fork l r, w, p => by
    simp only [Tr.forks, List.mem_cons, List.mem_append, Tr.mem_forks l, Tr.mem_forks r]
    constructor
    · rintro (rfl | ⟨v, rfl, h⟩ | ⟨v, rfl, h⟩)
      · exact ⟨[], by simp, l, r, rfl⟩
      · exact ⟨false :: v, by simp, h⟩
      · exact ⟨true :: v, by simp, h⟩
    · rintro ⟨v, rfl, h⟩
      cases v with
      | nil => exact .inl (by simp)
      | cons b v =>
        cases b with
        | false => exact .inr (.inl ⟨v, by simp, h⟩)
        | true => exact .inr (.inr ⟨v, by simp, h⟩)
theorem Tr.sub_leaves : ∀ (t : Tr) (v : List Bool) (u : Tr), t.sub v = some u → ∀ x ∈ u.leaves, x ∈ t.leaves
  | t, [], u, h => by rw [t.sub_nil] at h; cases h; exact fun x hx => hx
  | .leaf _, _ :: _, u, h => by cases h
  | .fork l r, b :: v, u, h => fun x hx => by
    cases b with
    | false => exact List.mem_append_left _ (Tr.sub_leaves l v u h x hx)
    | true => exact List.mem_append_right _ (Tr.sub_leaves r v u h x hx)
theorem Tr.sub_height : ∀ (t : Tr) (v : List Bool) (u : Tr), t.sub v = some u → v.length + u.height ≤ t.height
  | t, [], u, h => by rw [t.sub_nil] at h; cases h; simp
  | .leaf _, _ :: _, u, h => by cases h
  | .fork l r, b :: v, u, h => by
    cases b with
    | false => have := Tr.sub_height l v u h; simp only [List.length_cons, Tr.height]; omega
    | true => have := Tr.sub_height r v u h; simp only [List.length_cons, Tr.height]; omega
/-- a name stands at one place -/
theorem Tr.sub_inj : ∀ (t : Tr), t.leaves.Nodup → ∀ (v w : List Bool) (x : Str), t.sub v = some (.leaf x) → t.sub w = some (.leaf x) → v = w
  | .leaf y, _, v, w, x, h1, h2 => by
    cases v with
    | nil => cases w with
      | nil => rfl
      | cons b w => cases h2
    | cons b v => cases h1
  | .fork l r, nd, v, w, x, h1, h2 => by
    obtain ⟨n1, n2, n3⟩ := List.nodup_append.mp nd
    cases v with
    | nil => cases h1
    | cons b v =>
      cases w with
      | nil => cases h2
      | cons c w =>
        have mem : ∀ (s : Tr) (u : List Bool), s.sub u = some (.leaf x) → x ∈ s.leaves := fun s u h => Tr.sub_leaves s u _ h x (by simp [Tr.leaves])
        cases b with
        | false => cases c with
          | false => rw [Tr.sub_inj l n1 v w x h1 h2]
          | true => exact absurd rfl (n3 x (mem l v h1) x (mem r w h2))
        | true => cases c with
          | false => exact absurd rfl (n3 x (mem l w h2) x (mem r v h1))
          | true => rw [Tr.sub_inj r n2 v w x h1 h2]
theorem Tr.ways_nodup (t : Tr) (nd : t.leaves.Nodup) (w : List Bool) : ((t.ways w).map (·.1)).Nodup := by rw [t.ways_names]; exact nd
/-- every name has a way -/
theorem Tr.has_way : ∀ (t : Tr) (x : Str), x ∈ t.leaves → ∃ v, t.sub v = some (.leaf x)
  | .leaf y, x, h => by
    have : x = y := by simpa [Tr.leaves] using h
    exact ⟨[], by rw [this]; rfl⟩
  | .fork l r, x, h => by
    rcases List.mem_append.mp h with h | h
    · obtain ⟨v, e⟩ := Tr.has_way l x h
      exact ⟨false :: v, e⟩
    · obtain ⟨v, e⟩ := Tr.has_way r x h
      exact ⟨true :: v, e⟩

/-- the way of a name ([] for a stranger) -/
def Tr.way (t : Tr) (x : Str) : List Bool := ((t.ways []).lookup x).getD []
theorem lookup_of_mem {α β : Type} [BEq α] [LawfulBEq α] : ∀ (l : List (α × β)) (x : α) (y : β), (l.map (·.1)).Nodup → (x, y) ∈ l → l.lookup x = some y
  | [], _, _, _, h => by simp at h
  | (a, b) :: r, x, y, nd, h => by
    rw [List.map_cons, List.nodup_cons] at nd
    rcases List.mem_cons.mp h with e | h'
    · cases e; simp [List.lookup]
    · have hne : (x == a) = false := by
        apply beq_eq_false_iff_ne.mpr
        intro e
        exact nd.1 (List.mem_map.mpr ⟨(x, y), h', e⟩)
      simp only [List.lookup, hne]
      exact lookup_of_mem r x y nd.2 h'
theorem Tr.way_sub (t : Tr) (nd : t.leaves.Nodup) {x : Str} (hx : x ∈ t.leaves) : t.sub (t.way x) = some (.leaf x) := by
  obtain ⟨v, e⟩ := t.has_way x hx
  have m : (x, v) ∈ t.ways [] := (t.mem_ways [] x v).mpr ⟨v, rfl, e⟩
  have l := lookup_of_mem _ x v (t.ways_nodup nd []) m
  unfold Tr.way
  rw [l]
  exact e
theorem Tr.way_mem (t : Tr) (nd : t.leaves.Nodup) {x : Str} (hx : x ∈ t.leaves) : (x, t.way x) ∈ t.ways [] :=
  (t.mem_ways [] x _).mpr ⟨_, rfl, t.way_sub nd hx⟩
theorem Tr.way_eq (t : Tr) (nd : t.leaves.Nodup) {x : Str} {v : List Bool} (h : t.sub v = some (.leaf x)) : t.way x = v :=
  t.sub_inj nd _ _ x (t.way_sub nd (t.sub_leaves v _ h x (by simp [Tr.leaves]))) h
theorem Tr.way_inj (t : Tr) (nd : t.leaves.Nodup) {x y : Str} (hx : x ∈ t.leaves) (hy : y ∈ t.leaves) (e : t.way x = t.way y) : x = y := by
  have h1 := t.way_sub nd hx
  rw [e, t.way_sub nd hy] at h1
  injection h1 with h1; injection h1 with h1; exact h1.symm
theorem Tr.way_len (t : Tr) (nd : t.leaves.Nodup) {x : Str} (hx : x ∈ t.leaves) : (t.way x).length ≤ t.height := by
  have := t.sub_height _ _ (t.way_sub nd hx); omega
/-- proper prefixes of a way are forks -/
theorem Tr.sub_take (t : Tr) {v : List Bool} {x : Str} (h : t.sub v = some (.leaf x)) {k : Nat} (hk : k < v.length) : ∃ l r, t.sub (v.take k) = some (.fork l r) ∧ (if v.getD k false then r else l).sub (v.drop (k + 1)) = some (.leaf x) := by
  have e : v = v.take k ++ v.drop k := (List.take_append_drop k v).symm
  rw [e, t.sub_append] at h
  have hd : v.drop k = v.getD k false :: v.drop (k + 1) := by
    rw [List.drop_eq_getElem_cons hk, List.getD_eq_getElem?_getD, List.getElem?_eq_getElem hk]; rfl
  rw [hd] at h
  cases q : t.sub (v.take k) with
  | none => rw [q] at h; cases h
  | some u =>
    rw [q] at h
    cases u with
    | leaf y => cases h
    | fork l r => exact ⟨l, r, rfl, h⟩

/-! ### boards -/
/-- who is told: the boards lead -/
def Tr.tell (b : List Bool → Bool) : Tr → List Bool → Str
  | .leaf x, _ => x
  | .fork l r, w => if b w then r.tell b (w ++ [true]) else l.tell b (w ++ [false])
theorem Tr.tell_congr {b c : List Bool → Bool} : ∀ (t : Tr) (w : List Bool), (∀ v, b (w ++ v) = c (w ++ v)) → t.tell b w = t.tell c w
  | .leaf _, _, _ => rfl
  | .fork l r, w, h => by
    have h0 := h []
    rw [List.append_nil] at h0
    have hl : l.tell b (w ++ [false]) = l.tell c (w ++ [false]) := Tr.tell_congr l _ fun v => by simpa using h (false :: v)
    have hr : r.tell b (w ++ [true]) = r.tell c (w ++ [true]) := Tr.tell_congr r _ fun v => by simpa using h (true :: v)
    simp only [Tr.tell, h0, hl, hr]
theorem Tr.tell_mem {b : List Bool → Bool} : ∀ (t : Tr) (w : List Bool), t.tell b w ∈ t.leaves
  | .leaf _, _ => by simp [Tr.tell, Tr.leaves]
  | .fork l r, w => by
    simp only [Tr.tell, Tr.leaves, List.mem_append]
    split
    · exact .inr (r.tell_mem _)
    · exact .inl (l.tell_mem _)
/-- boards that spell a way lead to its name -/
theorem Tr.tell_way {b : List Bool → Bool} : ∀ (t : Tr) (w v : List Bool) (x : Str), t.sub v = some (.leaf x) → (∀ k, k < v.length → b (w ++ v.take k) = v.getD k false) → t.tell b w = x
  | .leaf y, w, v, x, h, _ => by
    cases v with
    | nil => cases h; rfl
    | cons c v => cases h
  | .fork l r, w, v, x, h, hb => by
    cases v with
    | nil => cases h
    | cons c v =>
      have h0 := hb 0 (by simp)
      simp at h0
      simp only [Tr.tell, h0]
      have hs : (if c then r else l).sub v = some (.leaf x) := h
      have step : ∀ k, k < v.length → b ((w ++ [c]) ++ v.take k) = v.getD k false := fun k hk => by
        have := hb (k + 1) (by simp; omega)
        simpa using this
      cases c with
      | false => simpa using Tr.tell_way l (w ++ [false]) v x hs step
      | true => simpa using Tr.tell_way r (w ++ [true]) v x hs step
/-- the loop: the place w, the subtree there -/
theorem Tr.tell_step {b : List Bool → Bool} {t l r : Tr} {w : List Bool} (h : t.sub w = some (.fork l r)) : t.sub (w ++ [b w]) = some (if b w then r else l) ∧ (Tr.fork l r).tell b w = (if b w then r else l).tell b (w ++ [b w]) := by
  refine ⟨?_, ?_⟩
  · rw [t.sub_append, h]
    show (if b w then r else l).sub [] = _
    rw [Tr.sub_nil]
  · cases e : b w <;> simp [Tr.tell, e]

/-! ### indexes of the cells that have p, from k on -/
def idx (p : Str × Nat → Bool) : List (Str × Nat) → Nat → List Nat
  | [], _ => []
  | c :: r, k => if p c then k :: idx p r (k + 1) else idx p r (k + 1)
theorem idx_append (p : Str × Nat → Bool) : ∀ (a b : List (Str × Nat)) (k : Nat), idx p (a ++ b) k = idx p a k ++ idx p b (k + a.length)
  | [], b, k => by simp [idx]
  | c :: a, b, k => by
    have ih := idx_append p a b (k + 1)
    have e : k + 1 + a.length = k + (c :: a).length := by simp only [List.length_cons]; omega
    rw [e] at ih
    cases h : p c <;> simp [idx, h, ih]
theorem idx_take_succ (p : Str × Nat → Bool) (cs : List (Str × Nat)) (i : Nat) (c : Str × Nat) (h : cs[i]? = some c) : idx p (cs.take (i + 1)) 0 = idx p (cs.take i) 0 ++ (if p c then [i] else []) := by
  have hl : i < cs.length := (List.getElem?_eq_some_iff.mp h).1
  rw [List.take_add_one, h, idx_append]
  have e : 0 + (cs.take i).length = i := by rw [List.length_take]; omega
  rw [e]
  cases q : p c <;> simp [idx, q]
theorem mem_idx (p : Str × Nat → Bool) : ∀ (cs : List (Str × Nat)) (k i : Nat), i ∈ idx p cs k ↔ ∃ j c, i = k + j ∧ cs[j]? = some c ∧ p c = true
  | [], k, i => by simp [idx]
  | c :: r, k, i => by
    have ih := mem_idx p r (k + 1) i
    have back : (∃ j c', i = k + j ∧ (c :: r)[j]? = some c' ∧ p c' = true) ↔ (i = k ∧ p c = true) ∨ ∃ j c', i = k + 1 + j ∧ r[j]? = some c' ∧ p c' = true := by
      constructor
      · rintro ⟨j, c', e1, e2, e3⟩
        cases j with
        | zero => simp at e2; subst e2; exact .inl ⟨by omega, e3⟩
        | succ j => exact .inr ⟨j, c', by omega, by simpa using e2, e3⟩
      · rintro (⟨e1, e2⟩ | ⟨j, c', e1, e2, e3⟩)
        · exact ⟨0, c, by omega, by simp, e2⟩
        · exact ⟨j + 1, c', by omega, by simpa using e2, e3⟩
    rw [back, ← ih]
    cases h : p c with
    | false => simp [idx, h]
    | true => simp [idx, h]
theorem idx_nodup (p : Str × Nat → Bool) : ∀ (cs : List (Str × Nat)) (k : Nat), (idx p cs k).Nodup
  | [], _ => by simp [idx]
  | c :: r, k => by
    have ih := idx_nodup p r (k + 1)
    cases h : p c with
    | false => simpa [idx, h] using ih
    | true =>
      simp only [idx, h, if_true, List.nodup_cons]
      refine ⟨fun m => ?_, ih⟩
      obtain ⟨j, _, e, _⟩ := (mem_idx p r (k + 1) k).mp m
      omega
theorem idx_none (p : Str × Nat → Bool) : ∀ (cs : List (Str × Nat)) (k : Nat), (∀ c ∈ cs, p c = false) → idx p cs k = []
  | [], _, _ => rfl
  | c :: r, k, h => by
    simp only [idx, h c List.mem_cons_self, Bool.false_eq_true, if_false]
    exact idx_none p r (k + 1) fun c hc => h c (List.mem_cons_of_mem _ hc)
theorem idx_all (p : Str × Nat → Bool) : ∀ (cs : List (Str × Nat)) (k : Nat), (∀ c ∈ cs, p c = true) → idx p cs k = (List.range cs.length).map (k + ·)
  | [], _, _ => rfl
  | c :: r, k, h => by
    simp only [idx, h c List.mem_cons_self, if_true]
    rw [idx_all p r (k + 1) fun c hc => h c (List.mem_cons_of_mem _ hc), List.length_cons, List.range_succ_eq_map, List.map_cons, List.map_map]
    congr 1
    apply List.map_congr_left
    intro i _
    simp only [Function.comp]
    omega

section
variable (wf : Str → List Bool)
def cellsOne (x : Str) : List (Str × Nat) := (List.range (wf x).length).map fun l => (x, l)
def cellsOf (ns : List Str) : List (Str × Nat) := ns.flatMap (cellsOne wf)
/-- the index of the first cell of a name -/
def beg : List Str → Str → Nat
  | [], _ => 0
  | y :: r, x => if y = x then 0 else (wf y).length + beg r x
theorem cellsOne_len (x : Str) : (cellsOne wf x).length = (wf x).length := by simp [cellsOne]
theorem mem_cellsOf {ns : List Str} {c : Str × Nat} (h : c ∈ cellsOf wf ns) : c.1 ∈ ns ∧ c.2 < (wf c.1).length := by
  obtain ⟨x, hx, hc⟩ := List.mem_flatMap.mp h
  obtain ⟨l, hl, rfl⟩ := List.mem_map.mp hc
  exact ⟨hx, List.mem_range.mp hl⟩
theorem own_eq : ∀ (ns : List Str) (k : Nat) (x : Str), ns.Nodup → x ∈ ns → idx (fun c => decide (c.1 = x)) (cellsOf wf ns) k = (List.range (wf x).length).map (k + beg wf ns x + ·)
  | [], _, _, _, h => by simp at h
  | y :: r, k, x, nd, h => by
    rw [List.nodup_cons] at nd
    show idx _ (cellsOne wf y ++ cellsOf wf r) k = _
    rw [idx_append]
    by_cases e : y = x
    · subst e
      rw [idx_all _ (cellsOne wf y) k fun c hc => by obtain ⟨l, _, rfl⟩ := List.mem_map.mp hc; simp]
      rw [idx_none _ (cellsOf wf r) _ fun c hc => decide_eq_false fun q => nd.1 (by rw [← q]; exact (mem_cellsOf wf hc).1)]
      simp [cellsOne_len, beg]
    · have hx : x ∈ r := by
        rcases List.mem_cons.mp h with q | q
        · exact absurd q.symm e
        · exact q
      rw [idx_none _ (cellsOne wf y) k fun c hc => by obtain ⟨l, _, rfl⟩ := List.mem_map.mp hc; exact decide_eq_false e]
      rw [own_eq r _ x nd.2 hx, cellsOne_len, List.nil_append]
      simp only [beg, if_neg e]
      apply List.map_congr_left
      intro i _
      omega
theorem cell_at : ∀ (ns : List Str) (x : Str) (l : Nat), x ∈ ns → l < (wf x).length → (cellsOf wf ns)[beg wf ns x + l]? = some (x, l)
  | [], _, _, h, _ => by simp at h
  | y :: r, x, l, h, hl => by
    show (cellsOne wf y ++ cellsOf wf r)[_]? = _
    by_cases e : y = x
    · subst e
      simp only [beg, if_true, Nat.zero_add]
      rw [List.getElem?_append_left (by rw [cellsOne_len]; exact hl)]
      simp [cellsOne, List.getElem?_range hl]
    · have hx : x ∈ r := by
        rcases List.mem_cons.mp h with q | q
        · exact absurd q.symm e
        · exact q
      simp only [beg, if_neg e]
      rw [List.getElem?_append_right (by rw [cellsOne_len]; omega), cellsOne_len]
      have : (wf y).length + beg wf r x + l - (wf y).length = beg wf r x + l := by omega
      rw [this]
      exact cell_at r x l hx hl
theorem beg_lt {ns : List Str} {x : Str} {l : Nat} (hx : x ∈ ns) (hl : l < (wf x).length) : beg wf ns x + l < (cellsOf wf ns).length :=
  (List.getElem?_eq_some_iff.mp (cell_at wf ns x l hx hl)).1
theorem beg_take (ns : List Str) (j : Nat) (x : Str) (nd : ns.Nodup) (h : ns[j]? = some x) : beg wf ns x = (cellsOf wf (ns.take j)).length := by
  induction ns generalizing j with
  | nil => simp at h
  | cons y r ih =>
    rw [List.nodup_cons] at nd
    cases j with
    | zero => simp at h; subst h; simp [beg, cellsOf]
    | succ j =>
      have h' : r[j]? = some x := by simpa using h
      have e : y ≠ x := fun q => nd.1 (by rw [q]; exact List.mem_of_getElem? h')
      simp only [beg, if_neg e, List.take_succ_cons]
      rw [ih j nd.2 h']
      simp [cellsOf, cellsOne_len]
/-- the flags of a fork -/
def isAt (F : List Bool) (c : Str × Nat) : Bool := decide ((wf c.1).take c.2 = F)
def flags (ns : List Str) (F : List Bool) : List Nat := idx (isAt wf F) (cellsOf wf ns) 0
theorem mem_flags {ns : List Str} {F : List Bool} {x : Str} {l : Nat} (hx : x ∈ ns) (hl : l < (wf x).length) : beg wf ns x + l ∈ flags wf ns F ↔ (wf x).take l = F := by
  unfold flags
  rw [mem_idx]
  have hc := cell_at wf ns x l hx hl
  constructor
  · rintro ⟨j, c, e1, e2, e3⟩
    have : j = beg wf ns x + l := by omega
    subst this
    rw [hc] at e2
    cases e2
    exact of_decide_eq_true e3
  · intro e
    exact ⟨_, _, by omega, hc, decide_eq_true e⟩
theorem flags_lt {ns : List Str} {F : List Bool} {i : Nat} (h : i ∈ flags wf ns F) : i < (cellsOf wf ns).length := by
  obtain ⟨j, c, e1, e2, _⟩ := (mem_idx _ _ _ _).mp h
  have := (List.getElem?_eq_some_iff.mp e2).1
  omega
end

/-! ### parities -/
def bitI (b : Bool) : Int := if b then 1 else 0
def px (bs : List Bool) (is : List Nat) : Bool := is.foldr (fun i a => xor (bs.getD i false) a) false
theorem px_sum (bs : List Bool) : ∀ is : List Nat, ((is.map fun i => bitI (bs.getD i false)).sum) % 2 = bitI (px bs is)
  | [] => rfl
  | i :: r => by
    have ih := px_sum bs r
    simp only [List.map_cons, List.sum_cons]
    show _ = bitI (xor (bs.getD i false) (px bs r))
    cases h1 : bs.getD i false <;> cases h2 : px bs r <;> rw [h2] at ih <;> simp [bitI] at ih ⊢ <;> omega
def tog (bs : List Bool) (i : Nat) : List Bool := bs.set i (!bs.getD i false)
theorem tog_len (bs : List Bool) (i : Nat) : (tog bs i).length = bs.length := by simp [tog]
theorem tog_get (bs : List Bool) (i j : Nat) (hi : i < bs.length) : (tog bs i).getD j false = if j = i then !bs.getD i false else bs.getD j false := by
  unfold tog
  by_cases e : j = i
  · subst e
    rw [if_pos rfl, List.getD_eq_getElem?_getD, List.getElem?_set_self hi]; rfl
  · rw [if_neg e, List.getD_eq_getElem?_getD, List.getElem?_set_ne (Ne.symm e), ← List.getD_eq_getElem?_getD]
theorem px_tog (bs : List Bool) (i : Nat) (hi : i < bs.length) : ∀ is : List Nat, is.Nodup → px (tog bs i) is = xor (px bs is) (decide (i ∈ is))
  | [], _ => by simp [px]
  | j :: r, nd => by
    rw [List.nodup_cons] at nd
    have ih := px_tog bs i hi r nd.2
    show xor ((tog bs i).getD j false) (px (tog bs i) r) = xor (xor (bs.getD j false) (px bs r)) (decide (i ∈ j :: r))
    rw [ih, tog_get bs i j hi]
    by_cases e : j = i
    · subst e
      have : decide (j ∈ r) = false := decide_eq_false nd.1
      have h2 : decide (j ∈ j :: r) = true := decide_eq_true List.mem_cons_self
      rw [this, h2, if_pos rfl]
      cases bs.getD j false <;> cases px bs r <;> rfl
    · have h2 : decide (i ∈ j :: r) = decide (i ∈ r) := by
        by_cases q : i ∈ r
        · rw [decide_eq_true q, decide_eq_true (List.mem_cons_of_mem _ q)]
        · rw [decide_eq_false q, decide_eq_false]
          intro m
          rcases List.mem_cons.mp m with z | z
          · exact e z.symm
          · exact q z
      rw [h2, if_neg e]
      cases bs.getD j false <;> cases px bs r <;> cases decide (i ∈ r) <;> rfl
def togs (bs : List Bool) (ts : List Nat) : List Bool := ts.foldl tog bs
theorem togs_len (ts : List Nat) : ∀ bs : List Bool, (togs bs ts).length = bs.length := by
  induction ts with
  | nil => intro bs; rfl
  | cons i r ih => intro bs; show (togs (tog bs i) r).length = _; rw [ih, tog_len]
/-- how often the turned indexes meet is, as a parity -/
def meet (ts : List Nat) (is : List Nat) : Bool := ts.foldr (fun i a => xor (decide (i ∈ is)) a) false
theorem px_togs (is : List Nat) (nd : is.Nodup) (ts : List Nat) : ∀ bs : List Bool, (∀ i ∈ ts, i < bs.length) → px (togs bs ts) is = xor (px bs is) (meet ts is) := by
  induction ts with
  | nil => intro bs _; simp [togs, meet]
  | cons i r ih =>
    intro bs h
    show px (togs (tog bs i) r) is = xor (px bs is) (xor (decide (i ∈ is)) (meet r is))
    rw [ih (tog bs i) fun j hj => by rw [tog_len]; exact h j (List.mem_cons_of_mem _ hj), px_tog bs i (h i List.mem_cons_self) is nd]
    cases px bs is <;> cases decide (i ∈ is) <;> cases meet r is <;> rfl
theorem meet_append (a b is : List Nat) : meet (a ++ b) is = xor (meet a is) (meet b is) := by
  induction a with
  | nil => simp [meet]
  | cons i r ih =>
    show xor (decide (i ∈ is)) (meet (r ++ b) is) = xor (xor (decide (i ∈ is)) (meet r is)) (meet b is)
    rw [ih]
    cases decide (i ∈ is) <;> cases meet r is <;> cases meet b is <;> rfl
/-- marks set from one state: the same as turning them, if no index comes twice -/
def sets (st : List Bool) (bs : List Bool) (ts : List Nat) : List Bool := ts.foldl (fun m i => m.set i (!st.getD i false)) bs
theorem sets_togs (st : List Bool) (ts : List Nat) : ∀ bs : List Bool, ts.Nodup → (∀ i ∈ ts, i < bs.length) → (∀ i ∈ ts, bs.getD i false = st.getD i false) → sets st bs ts = togs bs ts := by
  induction ts with
  | nil => intro bs _ _ _; rfl
  | cons i r ih =>
    intro bs nd hl h
    rw [List.nodup_cons] at nd
    have e : bs.set i (!st.getD i false) = tog bs i := by unfold tog; rw [h i List.mem_cons_self]
    show sets st (bs.set i (!st.getD i false)) r = togs (tog bs i) r
    rw [e]
    refine ih (tog bs i) nd.2 (fun j hj => by rw [tog_len]; exact hl j (List.mem_cons_of_mem _ hj)) fun j hj => ?_
    rw [tog_get bs i j (hl i List.mem_cons_self), if_neg fun q => nd.1 (by rw [← q]; exact hj)]
    exact h j (List.mem_cons_of_mem _ hj)

/-! ### the update of a writer -/
section
variable (wf : Str → List Bool) (ns : List Str) (bs : List Bool)
def board (F : List Bool) : Bool := px bs (flags wf ns F)
/-- the levels of the wrong forks, the deepest first -/
def wrongs (x : Str) : List Nat := (List.range (wf x).length).reverse.filter fun l => board wf ns bs ((wf x).take l) != (wf x).getD l false
def turnIx (x : Str) : List Nat := (wrongs wf ns bs x).map (beg wf ns x + ·)
def hit (x : Str) (F : List Bool) : Bool := decide (F.length < (wf x).length ∧ (wf x).take F.length = F) && (board wf ns bs F != (wf x).getD F.length false)
theorem wrongs_lt {x : Str} {l : Nat} (h : l ∈ wrongs wf ns bs x) : l < (wf x).length := by
  have := (List.mem_filter.mp h).1
  simpa using this
theorem wrongs_nodup (x : Str) : (wrongs wf ns bs x).Nodup := by
  refine List.Nodup.sublist List.filter_sublist ?_
  exact List.pairwise_reverse.mpr (List.nodup_range.imp fun h => Ne.symm h)
theorem turnIx_nodup (x : Str) : (turnIx wf ns bs x).Nodup := by
  refine (List.pairwise_map.mpr ?_)
  refine (wrongs_nodup wf ns bs x).imp ?_
  intro a b h; omega
theorem turnIx_cell {x : Str} (hx : x ∈ ns) {i : Nat} (h : i ∈ turnIx wf ns bs x) : ∃ l, (cellsOf wf ns)[i]? = some (x, l) := by
  obtain ⟨l, hl, rfl⟩ := List.mem_map.mp h
  exact ⟨l, cell_at wf ns x l hx (wrongs_lt wf ns bs hl)⟩
theorem turnIx_lt {x : Str} (hx : x ∈ ns) {i : Nat} (h : i ∈ turnIx wf ns bs x) : i < (cellsOf wf ns).length := by
  obtain ⟨l, e⟩ := turnIx_cell wf ns bs hx h
  exact (List.getElem?_eq_some_iff.mp e).1
theorem both_nodup {a b : Str} (ha : a ∈ ns) (hb : b ∈ ns) (ne : a ≠ b) : (turnIx wf ns bs a ++ turnIx wf ns bs b).Nodup := by
  refine List.nodup_append.mpr ⟨turnIx_nodup wf ns bs a, turnIx_nodup wf ns bs b, fun i hi j hj e => ?_⟩
  subst e
  obtain ⟨l, e1⟩ := turnIx_cell wf ns bs ha hi
  obtain ⟨l', e2⟩ := turnIx_cell wf ns bs hb hj
  rw [e1] at e2
  cases e2
  exact ne rfl
theorem meet_levels {x : Str} (hx : x ∈ ns) (F : List Bool) : ∀ ls : List Nat, ls.Nodup → (∀ l ∈ ls, l < (wf x).length) → meet (ls.map (beg wf ns x + ·)) (flags wf ns F) = decide (F.length ∈ ls ∧ (wf x).take F.length = F)
  | [], _, _ => by simp [meet]
  | l :: r, nd, h => by
    rw [List.nodup_cons] at nd
    have ih := meet_levels hx F r nd.2 fun j hj => h j (List.mem_cons_of_mem _ hj)
    have hl := h l List.mem_cons_self
    show xor (decide (beg wf ns x + l ∈ flags wf ns F)) (meet (r.map (beg wf ns x + ·)) (flags wf ns F)) = _
    rw [ih, decide_eq_decide.mpr (mem_flags wf hx hl)]
    by_cases e : (wf x).take l = F
    · have hF : F.length = l := by rw [← e, List.length_take]; omega
      rw [decide_eq_true e, hF, decide_eq_false (fun q => nd.1 q.1)]
      symm
      rw [decide_eq_true ⟨List.mem_cons_self, e⟩] <;> rfl
    · rw [decide_eq_false e, Bool.false_xor]
      refine decide_eq_decide.mpr ⟨fun q => ⟨List.mem_cons_of_mem _ q.1, q.2⟩, fun q => ⟨?_, q.2⟩⟩
      rcases List.mem_cons.mp q.1 with z | z
      · exact absurd (by rw [← z]; exact q.2) e
      · exact z
theorem meet_turnIx {x : Str} (hx : x ∈ ns) (F : List Bool) : meet (turnIx wf ns bs x) (flags wf ns F) = hit wf ns bs x F := by
  unfold turnIx
  rw [meet_levels wf ns hx F _ (wrongs_nodup wf ns bs x) fun l hl => wrongs_lt wf ns bs hl]
  unfold hit
  by_cases e : (wf x).take F.length = F
  · have h1 : decide (F.length ∈ wrongs wf ns bs x ∧ (wf x).take F.length = F) = decide (F.length ∈ wrongs wf ns bs x) := decide_eq_decide.mpr ⟨fun q => q.1, fun q => ⟨q, e⟩⟩
    have h2 : decide (F.length < (wf x).length ∧ (wf x).take F.length = F) = decide (F.length < (wf x).length) := decide_eq_decide.mpr ⟨fun q => q.1, fun q => ⟨q, e⟩⟩
    rw [h1, h2]
    unfold wrongs
    by_cases hl : F.length < (wf x).length
    · rw [decide_eq_true hl, Bool.true_and]
      cases q : (board wf ns bs F != (wf x).getD F.length false) with
      | true => exact decide_eq_true (List.mem_filter.mpr ⟨by simpa using hl, by rw [e]; exact q⟩)
      | false =>
        refine decide_eq_false fun m => ?_
        have z := (List.mem_filter.mp m).2
        rw [e, q] at z
        cases z
    · rw [decide_eq_false hl, Bool.false_and]
      refine decide_eq_false fun m => hl ?_
      have z := (List.mem_filter.mp m).1
      simpa using z
  · rw [decide_eq_false fun q => e q.2, decide_eq_false fun q => e q.2, Bool.false_and]
/-- the boards after both updates -/
theorem board_both {a b : Str} (ha : a ∈ ns) (hb : b ∈ ns) (hl : bs.length = (cellsOf wf ns).length) (F : List Bool) :
    board wf ns (togs bs (turnIx wf ns bs a ++ turnIx wf ns bs b)) F = xor (board wf ns bs F) (xor (hit wf ns bs a F) (hit wf ns bs b F)) := by
  unfold board
  rw [px_togs (flags wf ns F) (idx_nodup _ _ _) _ bs, meet_append, meet_turnIx wf ns bs ha, meet_turnIx wf ns bs hb]
  intro i hi
  rw [hl]
  rcases List.mem_append.mp hi with h | h
  · exact turnIx_lt wf ns bs ha h
  · exact turnIx_lt wf ns bs hb h
theorem hit_self {x : Str} {k : Nat} (hk : k < (wf x).length) : hit wf ns bs x ((wf x).take k) = (board wf ns bs ((wf x).take k) != (wf x).getD k false) := by
  have e : ((wf x).take k).length = k := by rw [List.length_take]; omega
  unfold hit
  rw [e, decide_eq_true ⟨hk, rfl⟩, Bool.true_and]
theorem hit_other {x : Str} {F : List Bool} (h : ∀ c G, F = c :: G → (wf x).head? ≠ some c) (hF : F ≠ []) : hit wf ns bs x F = false := by
  unfold hit
  cases F with
  | nil => exact absurd rfl hF
  | cons c G =>
    rw [decide_eq_false, Bool.false_and]
    rintro ⟨h1, h2⟩
    cases e : wf x with
    | nil => rw [e] at h1; simp at h1
    | cons d V =>
      have q := h c G rfl
      rw [e] at q h2
      simp at h2
      simp at q
      exact q h2.1
end

/-! ### the law's two facts -/
section
variable (t : Tr) (ns : List Str) (bs : List Bool)
/-- who is told by the marks bs -/
def told : Str := t.tell (board t.way ns bs) []
def after2 (a b : Str) : List Bool := togs bs (turnIx t.way ns bs a ++ turnIx t.way ns bs b)
variable (nd : t.leaves.Nodup) (pm : ns.Perm t.leaves) (hl : bs.length = (cellsOf t.way ns).length)
include nd pm hl
/-- the ways part at the top, the board leads to a: b is told behind both updates -/
theorem told_parted {a b : Str} (ha : a ∈ ns) (hb : b ∈ ns) (wa : t.way a ≠ []) (wb : t.way b ≠ []) (hp : (t.way a).getD 0 false ≠ (t.way b).getD 0 false) (h : board t.way ns bs [] = (t.way a).getD 0 false) : told t ns (after2 t ns bs a b) = b ∧ told t ns (after2 t ns bs b a) = b := by
  have key : ∀ k, k < (t.way b).length → xor (board t.way ns bs ((t.way b).take k)) (xor (hit t.way ns bs a ((t.way b).take k)) (hit t.way ns bs b ((t.way b).take k))) = (t.way b).getD k false := fun k hk => by
    rw [hit_self t.way ns bs hk]
    have h0 : hit t.way ns bs a ((t.way b).take k) = false := by
      cases k with
      | zero =>
        have e : (t.way b).take 0 = (t.way a).take 0 := rfl
        rw [e, hit_self t.way ns bs (List.length_pos_iff.mpr wa)]
        show (board t.way ns bs [] != _) = false
        rw [h]; simp
      | succ k =>
        refine hit_other t.way ns bs (fun c G e q => ?_) (fun q => ?_)
        · cases eb : t.way b with
          | nil => exact wb eb
          | cons d V =>
            rw [eb] at e
            simp at e
            cases ea : t.way a with
            | nil => exact wa ea
            | cons d' V' =>
              rw [ea, eb] at hp
              rw [ea] at q
              simp at q hp
              exact hp (q.trans e.1.symm)
        · have := congrArg List.length q
          rw [List.length_take, List.length_nil] at this
          omega
    rw [h0, Bool.false_xor]
    cases board t.way ns bs ((t.way b).take k) <;> cases (t.way b).getD k false <;> rfl
  have hbl : b ∈ t.leaves := (pm.mem_iff).mp hb
  refine ⟨t.tell_way [] (t.way b) b (t.way_sub nd hbl) fun k hk => ?_, t.tell_way [] (t.way b) b (t.way_sub nd hbl) fun k hk => ?_⟩
  · unfold after2
    rw [List.nil_append, board_both t.way ns bs ha hb hl]
    exact key k hk
  · unfold after2
    rw [List.nil_append, board_both t.way ns bs hb ha hl, Bool.xor_comm (hit t.way ns bs b _)]
    exact key k hk
/-- the ways do not part at the top, and the board leads to the other side: nothing is changed -/
theorem told_lost {a b : Str} (ha : a ∈ ns) (hb : b ∈ ns) (wa : t.way a ≠ []) (wb : t.way b ≠ []) (hp : (t.way a).getD 0 false = (t.way b).getD 0 false) (h : board t.way ns bs [] ≠ (t.way a).getD 0 false) :
    told t ns (after2 t ns bs a b) = told t ns bs ∧ told t ns bs ≠ a ∧ told t ns bs ≠ b := by
  have b0 : board t.way ns (after2 t ns bs a b) [] = board t.way ns bs [] := by
    unfold after2
    rw [board_both t.way ns bs ha hb hl]
    have ea : hit t.way ns bs a [] = (board t.way ns bs [] != (t.way a).getD 0 false) := hit_self t.way ns bs (k := 0) (List.length_pos_iff.mpr wa)
    have eb : hit t.way ns bs b [] = (board t.way ns bs [] != (t.way b).getD 0 false) := hit_self t.way ns bs (k := 0) (List.length_pos_iff.mpr wb)
    rw [ea, eb, hp]; simp
  have other : ∀ c V, board t.way ns bs [] = c → board t.way ns (after2 t ns bs a b) (c :: V) = board t.way ns bs (c :: V) := fun c V hc => by
    unfold after2
    rw [board_both t.way ns bs ha hb hl]
    have no : ∀ x, t.way x ≠ [] → (t.way x).getD 0 false ≠ c → hit t.way ns bs x (c :: V) = false := fun x wx hx => by
      refine hit_other t.way ns bs (fun d G e q => ?_) (by simp)
      cases ex : t.way x with
      | nil => exact wx ex
      | cons d' V' =>
        rw [ex] at q hx
        simp at q hx e
        exact hx (q.trans e.1.symm)
    rw [no a wa (by rw [← hc]; exact fun q => h q.symm), no b wb (by rw [← hc, ← hp]; exact fun q => h q.symm)]
    simp
  have hal : a ∈ t.leaves := (pm.mem_iff).mp ha
  have hbl : b ∈ t.leaves := (pm.mem_iff).mp hb
  have hsa := t.way_sub nd hal
  have hsb := t.way_sub nd hbl
  cases ht : t with
  | leaf y =>
    exfalso
    rw [ht] at hsa
    cases e : t.way a with
    | nil => exact wa e
    | cons c V => rw [← ht, e, ht] at hsa; cases hsa
  | fork l r =>
    rw [← ht]
    have un : ∀ bs', told t ns bs' = if board t.way ns bs' [] then r.tell (board t.way ns bs') [true] else l.tell (board t.way ns bs') [false] := fun bs' => by
      unfold told
      rw [ht]
      rfl
    have sides : ∀ x, t.sub (t.way x) = some (.leaf x) → t.way x ≠ [] → (t.way x).getD 0 false = false ∧ x ∈ l.leaves ∨ (t.way x).getD 0 false = true ∧ x ∈ r.leaves := fun x hs wx => by
      cases e : t.way x with
      | nil => exact absurd e wx
      | cons c V =>
        rw [e, ht] at hs
        cases c with
        | false => exact .inl ⟨rfl, l.sub_leaves V _ hs x (by simp [Tr.leaves])⟩
        | true => exact .inr ⟨rfl, r.sub_leaves V _ hs x (by simp [Tr.leaves])⟩
    have apart : ∀ x, x ∈ l.leaves → x ∈ r.leaves → False := fun x h1 h2 => by
      rw [ht] at nd
      exact (List.nodup_append.mp nd).2.2 x h1 x h2 rfl
    rw [un bs, un (after2 t ns bs a b), b0]
    cases hb0 : board t.way ns bs [] with
    | true =>
      simp only [if_true]
      refine ⟨r.tell_congr [true] fun V => by simpa using other true V hb0, ?_, ?_⟩
      · intro q
        have m := r.tell_mem (b := board t.way ns bs) [true]
        rw [q] at m
        rcases sides a hsa wa with ⟨_, z⟩ | ⟨z, _⟩
        · exact apart a z m
        · exact h (hb0.trans z.symm)
      · intro q
        have m := r.tell_mem (b := board t.way ns bs) [true]
        rw [q] at m
        rcases sides b hsb wb with ⟨_, z⟩ | ⟨z, _⟩
        · exact apart b z m
        · exact h (hb0.trans (hp.trans z).symm)
    | false =>
      simp only [Bool.false_eq_true, if_false]
      refine ⟨l.tell_congr [false] fun V => by simpa using other false V hb0, ?_, ?_⟩
      · intro q
        have m := l.tell_mem (b := board t.way ns bs) [false]
        rw [q] at m
        rcases sides a hsa wa with ⟨z, _⟩ | ⟨_, z⟩
        · exact h (hb0.trans z.symm)
        · exact apart a m z
      · intro q
        have m := l.tell_mem (b := board t.way ns bs) [false]
        rw [q] at m
        rcases sides b hsb wb with ⟨z, _⟩ | ⟨_, z⟩
        · exact h (hb0.trans (hp.trans z).symm)
        · exact apart b m z
omit hl
/-- more than one name: no way is empty -/
theorem way_ne {a b : Str} (ha : a ∈ ns) (hb : b ∈ ns) (ne : a ≠ b) : t.way a ≠ [] := fun e => by
  have h1 := t.way_sub nd ((pm.mem_iff).mp ha)
  have h2 := t.way_sub nd ((pm.mem_iff).mp hb)
  rw [e, t.sub_nil] at h1
  cases h1
  cases e2 : (Tr.leaf a).way b with
  | nil => rw [e2] at h2; cases h2; exact ne rfl
  | cons c V => rw [e2] at h2; cases h2
end
end Fk

set_option Elab.async false
set_option linter.all false
set_option maxRecDepth 100000
set_option maxHeartbeats 4000000
namespace Fk
open PySem PySem.Spec PyProof.Rows L2
/-! ### the text by places -/
def top (i : Nat) : Stmt := PySem.Challenge.pw_forkflags_k34_whole_safe_pairs.main.body.getD i (.Pass ⟨0, 0, 0, 0⟩)
def met (i j : Nat) : Stmt := inClass (top i) j

/-! ### a def that stands, by its promise -/
section
variable (P : Program) (w : World) (K : PySem.W.Frag) (mg : Str → Option Value) (base : Heap)
/-- callable by its name -/
structure Cal (k : Nat) (x : Str) (sp : Sp) : Prop where
  got : ∃ (f : Addr) (fd : FuncData) (ps : List Str), FnOk P w K mg base CX0 k f fd ps sp ∧ mg x = some (.ref f) ∧ PySem.W.keepIn K (.ref f) = true ∧ Binds K fd ps []
/-- callable as a method of the class at C -/
structure Met (k : Nat) (C : Addr) (m : Str) (sp : Sp) : Prop where
  got : ∃ (f : Addr) (fd : FuncData) (ps : List Str), Meth K C m f ∧ FnOk P w K mg base CX0 k f fd ps sp ∧ Binds K fd ps []
end
/-- the text's def st, under the name x -/
abbrev Std (K : PySem.W.Frag) (x q : Str) (st : Stmt) (f : Addr) (fd : FuncData) : Prop := FunD K x q (defArgs st) (defBody st) (defScope st) [] [] f fd
/-- how the written arguments come to the parameters -/
abbrev BindH (x q : Str) (st : Stmt) (ps : List Str) : Prop := ∀ (kV doc pm : Value) (an : Option Addr) (cdv ct : Value) (us : List Value), us.length = ps.length → bindArgs (PySem.W.fnOf x q (defArgs st) (defBody st) (defScope st) .none kV doc pm an cdv ct) ⟨us, []⟩ = pure (ps.zip us)
section
variable {P : Program} {w : World} {K : PySem.W.Frag} {mg : Str → Option Value} {base : Heap}
abbrev BodyH (P : Program) (w : World) (K : PySem.W.Frag) (mg : Str → Option Value) (base : Heap) (q : Str) (st : Stmt) (f : Addr) (N : List Str) (k : Nat) (sp : Sp) : Prop :=
  ∀ (cdv : Value) (A : Around) (outer : List Env) (s : Shared) (H : Hp) (vs : List V) (Q : VK) (E : XK), Room k (A.deeper (envOfC q (defScope st) s.heap.objs.size f cdv)) → sp vs H Q E →
    ∃ t, PSs (cxOf CX0 P w K mg base N q (defScope st) f cdv A outer s H E).nox (defBody st) t ∧ t { nx := fun _ H' => Q .non H', rt := Q } (start N vs) H
theorem std_ok {x q : Str} {st : Stmt} {f : Addr} {fd : FuncData} {N ps : List Str} {k : Nat} {sp : Sp} (F : Std K x q st f fd) (S : FnScope N ps (defScope st)) (len : ∀ vs H Q E, sp vs H Q E → vs.length = ps.length)
    (hb : BodyH P w K mg base q st f N k sp) : FnOk P w K mg base CX0 (k + 1) f fd ps sp :=
  FunD.ok F S len fun cdv A outer s H vs Q E hr h => by
    obtain ⟨t, a, b⟩ := hb cdv A outer s H vs Q E hr h
    exact ⟨t, PSs.nox a, b⟩
theorem cal_of {x : Str} {st : Stmt} {f : Addr} {fd : FuncData} {N ps : List Str} {k : Nat} {sp : Sp} (F : Std K x x st f fd) (hm : mg x = some (.ref f)) (bd : BindH x x st ps) (S : FnScope N ps (defScope st)) (len : ∀ vs H Q E, sp vs H Q E → vs.length = ps.length)
    (hb : BodyH P w K mg base x st f N k sp) : Cal P w K mg base (k + 1) x sp :=
  ⟨f, fd, ps, std_ok F S len hb, hm, F.kp, FunD.bindsN F bd⟩
theorem met_of {m q : Str} {C : Addr} {st : Stmt} {f : Addr} {fd : FuncData} {N ps : List Str} {k : Nat} {sp : Sp} (F : Std K m q st f fd) (hm : Meth K C m f) (bd : BindH m q st ps) (S : FnScope N ps (defScope st)) (len : ∀ vs H Q E, sp vs H Q E → vs.length = ps.length)
    (hb : BodyH P w K mg base q st f N k sp) : Met P w K mg base (k + 1) C m sp :=
  ⟨f, fd, ps, hm, std_ok F S len hb, FunD.bindsN F bd⟩
end
section
variable {X : Cx} {k j : Nat} {C : Addr} {x m : Str} {sp : Sp} {p pos apos : Pos} {e o : Expr} {es : List Expr} {ta : TE} {t : TA}
theorem pe_f (c : Cal X.prog X.w X.K X.mg X.base k x sp) (hr : Room j X.A) (ha : PA X (e :: es) t) (hk : k ≤ j := by first | decide | exact Nat.le_refl _ | omega) (hg : Gl X x := by rfl)
    (hd : (x == ("__debug__" : Str)) = false := by decide) (he : starEach (e :: es) X.env = (false, eval e X.env) :: starEach es X.env := by rfl) (hp : (backTo pos (starEach es X.env)).any (·.1) = false := by rfl) :
    PE X (.Call (.Name x p) (e :: es) [] pos) (tCall sp [] E0 t) := by
  obtain ⟨f, fd, ps, F, hm, kp, b⟩ := c.got
  exact pe_call F (hr.mono hk) hg hm kp b .nil pass0 ha hd he hp
theorem pe_m {pl : Sem Bool} (c : Met X.prog X.w X.K X.mg X.base k C m sp) (cl : Cls X.K C) (hr : Room j X.A) (he : PE X o ta) (ha : PA X (e :: es) t) (hk : k ≤ j := by first | decide | exact Nat.le_refl _ | omega)
    (hs : starEach (e :: es) X.env = (false, eval e X.env) :: starEach es X.env := by rfl) (hp : (backTo pos (starEach es X.env)).any (·.1) = false := by rfl)
    (hd : eval (.Call (.Attribute o m apos) (e :: es) [] pos) X.env = (do
      let it ← eval o X.env
      standAt apos.atName
      let (fn, fst) ← holding [it] (getMethod it m pl)
      callWith pos fn fst (backTo pos (starEach (e :: es) X.env)) (backToKw pos (keywordEach [] X.env))) := by rfl) :
    PE X (.Call (.Attribute o m apos) (e :: es) [] pos) (tMeth C m sp [] E0 ta t) := by
  obtain ⟨f, fd, ps, hm, F, b⟩ := c.got
  exact pe_meth (pl := pl) he cl hm F (hr.mono hk) b .nil pass0 ha hs hp hd
end

/-! ### the built-in names that the text does not hide -/
structure Free (mg : Str → Option Value) : Prop where
  isi : mg "isinstance" = none
  len : mg "len" = none
  sorted : mg "sorted" = none
  list : mg "list" = none
  tuple : mg "tuple" = none
  int : mg "int" = none
  str : mg "str" = none
  bool : mg "bool" = none
  sum : mg "sum" = none
  range : mg "range" = none
  zip : mg "zip" = none
  enum : mg "enumerate" = none
  rev : mg "reversed" = none
  max : mg "max" = none
  min : mg "min" = none
  super : mg "super" = none
section
variable {X : Cx} {e : Expr} {es : List Expr} {t : TA} {p pos : Pos}
abbrev rInt1 : List V → Hp → VK → Prop := fun xs H Q => (∃ i, xs = [.int i] ∧ Q (.int i) H) ∨ ∃ k, xs = [.bl k] ∧ Q (.int (if k then 1 else 0)) H
theorem pe_int1 (hm : X.mg "int" = none) (ha : PA X (e :: es) t) (hg : Gl X "int" := by rfl) (he : starEach (e :: es) X.env = (false, eval e X.env) :: starEach es X.env := by rfl) (hp : (backTo pos (starEach es X.env)).any (·.1) = false := by rfl) :
    PE X (.Call (.Name "int" p) (e :: es) [] pos) (tCB rInt1 t) :=
  pe_callTy call_int1 hg hm (by decide +kernel) ha (by decide) (by decide) he hp
end

/-! ### heaps that part at one object -/
/-- all that was tracked is as it was, but for b -/
def But (b : Addr) (H H' : Hp) : Prop := ∀ a o, a ≠ b → H a = some o → H' a = some o
theorem But.refl (b : Addr) (H : Hp) : But b H H := fun _ _ _ e => e
theorem But.trans {b : Addr} {H H1 H2 : Hp} (x : But b H H1) (y : But b H1 H2) : But b H H2 := fun a o n e => y a o n (x a o n e)
theorem But.of {b : Addr} {H H' : Hp} (x : Same H H') : But b H H' := fun a o _ e => x a o e
theorem But.upd {b : Addr} {H : Hp} {o : HO} : But b H (upd H b o) := fun a u n e => by rw [upd_ne n]; exact e
theorem But.new {b p : Addr} {H H' : Hp} {o : HO} (x : But b H H') (n : H' p = none) : But b H (L2.upd H' p o) := fun a u ne e => by
  rw [upd_ne (ne_of_none (x a u ne e) n)]
  exact x a u ne e
theorem sNew {p : Addr} {H H' : Hp} {o : HO} (x : Same H H') (n : H' p = none) : Same H (L2.upd H' p o) := fun a u e => by
  rw [upd_ne (ne_of_none (x a u e) n)]
  exact x a u e
/-- a list of this run may change under a walk that owns it: p stood not in H -/
theorem sOwn {p : Addr} {H H' : Hp} {o : HO} (x : Same H H') (n : H p = none) : Same H (L2.upd H' p o) := fun a u e => by
  rw [upd_ne (ne_of_none e n)]
  exact x a u e
theorem But.own {b p : Addr} {H H' : Hp} {o : HO} (x : But b H H') (n : H p = none) : But b H (L2.upd H' p o) := fun a u ne e => by
  rw [upd_ne (ne_of_none e n)]
  exact x a u ne e
/-- the box of the draws: three ints -/
def Bx (H : Hp) (b : Addr) : Prop := ∃ r s t : Int, H b = some (.lst [.int r, .int s, .int t])
theorem Bx.same {H H' : Hp} {b : Addr} (x : Bx H b) (k : Same H H') : Bx H' b := by
  obtain ⟨r, s, t, e⟩ := x
  exact ⟨r, s, t, k _ _ e⟩
theorem But.free {b : Addr} {H H' : Hp} (x : But b H H') (bx : Bx H' b) {l : Addr} (h : H' l = none) : H l = none := by
  cases q : H l with
  | none => rfl
  | some o =>
    by_cases e : l = b
    · subst e
      obtain ⟨r, s, t, z⟩ := bx
      rw [h] at z; cases z
    · rw [x l o e q] at h; cases h
theorem But.seq {K : PySem.W.Frag} {b a : Addr} {H H' : Hp} {xs : List V} (x : But b H H') (n : a ≠ b) (h : SqL K H a xs) : SqL K H' a xs := by
  rcases h with (h | ⟨o, h⟩) | h
  · exact .inl (.inl (x _ _ n h))
  · exact .inl (.inr ⟨o, x _ _ n h⟩)
  · exact .inr h
theorem mem_cutV {xs : List V} {lo hi : Option Int} {x : V} (h : x ∈ cutV xs lo hi) : x ∈ xs := List.mem_of_mem_drop (List.mem_of_mem_take h)
theorem ints_at {ns : List Int} {x : V} (h : x ∈ ns.map V.int) : ∃ z, x = .int z := by
  obtain ⟨z, _, e⟩ := List.mem_map.mp h
  exact ⟨z, e.symm⟩

/-! ### names -/
def Low (x : Str) : Prop := ∀ c ∈ x.cps.toList, 97 ≤ c ∧ c ≤ 122
theorem low_nil : Low ("" : Str) := by
  have e : ("" : Str).cps.toList = [] := by decide +kernel
  intro c hc
  rw [e] at hc; cases hc
def Nm (x : Str) : Prop := 1 ≤ x.length ∧ x.length ≤ 8 ∧ Low x
abbrev abc : Str := "abcdefghijklmnopqrstuvwxyz"
theorem abc_list : abc.cps.toList = (List.range 26).map (97 + ·) := by decide +kernel
theorem abc_len : abc.length = 26 := by decide +kernel
theorem str_cat (x y : Str) : (x ++ y).cps.toList = x.cps.toList ++ y.cps.toList := by
  show (x.cps ++ y.cps).toList = _
  rw [Array.toList_append]
theorem str_cat_len (x y : Str) : (x ++ y).length = x.length + y.length := by
  show (x.cps ++ y.cps).size = _
  rw [Array.size_append]; rfl
theorem str_len (x : Str) : x.length = x.cps.toList.length := by
  show x.cps.size = _
  rw [Array.length_toList]
theorem str_ext {x y : Str} (h : x.cps.toList = y.cps.toList) : x = y := by
  cases x; cases y
  exact congrArg Str.mk (Array.toList_inj.mp h)
theorem abc_at {d : Int} (h0 : 0 ≤ d) (h1 : d < 26) : ∃ c, atI abc.cps.toList d = some c ∧ 97 ≤ c ∧ c ≤ 122 := by
  obtain ⟨k, rfl⟩ : ∃ k : Nat, d = (k : Int) := ⟨d.toNat, by omega⟩
  have hk : k < 26 := by omega
  refine ⟨97 + k, atI_nat ?_, by omega, by omega⟩
  rw [abc_list]
  simp [hk]
theorem small_line {n : Nat} (h : n ≤ 1000) : n ≤ sizeLine := by rw [sizeLine_eq]; omega
theorem small_line' {n : Nat} (h : n ≤ 1000) : n < sizeLine := by rw [sizeLine_eq]; omega

/-! ### trees in the heap -/
inductive TrV (H : Hp) : V → Tr → Prop where
  | leaf (x : Str) : TrV H (.str x) (.leaf x)
  | fork {a : Addr} {u v : V} {l r : Tr} (e : H a = some (.tup [u, v])) (hl : TrV H u l) (hr : TrV H v r) : TrV H (.ref a) (.fork l r)
/-- every tuple stands -/
def Tups (H H' : Hp) : Prop := ∀ a xs, H a = some (.tup xs) → H' a = some (.tup xs)
theorem Tups.refl (H : Hp) : Tups H H := fun _ _ e => e
theorem Tups.trans {H H1 H2 : Hp} (x : Tups H H1) (y : Tups H1 H2) : Tups H H2 := fun a xs e => y a xs (x a xs e)
theorem Tups.of {H H' : Hp} (x : Same H H') : Tups H H' := fun a _ e => x a _ e
theorem Tups.but {b : Addr} {H H' : Hp} (x : But b H H') (bx : Bx H b) : Tups H H' := fun a xs e => x a _ (fun z => by
  obtain ⟨r, s, t, q⟩ := bx
  rw [z, q] at e; cases e) e
theorem Tups.lst {b : Addr} {H : Hp} {xs ys : List V} (h : H b = some (.lst xs)) : Tups H (upd H b (.lst ys)) := fun a zs e => by
  rw [upd_ne (ne_of e h (by intro z; cases z))]; exact e
theorem Tups.new {p : Addr} {H : Hp} {o : HO} (n : H p = none) : Tups H (upd H p o) := fun a zs e => by
  rw [upd_ne (ne_of_none e n)]; exact e
theorem TrV.mono {H H' : Hp} {v : V} {t : Tr} (h : TrV H v t) (k : Tups H H') : TrV H' v t := by
  induction h with
  | leaf x => exact .leaf x
  | fork e _ _ h1 h2 => exact .fork (k _ _ e) h1 h2

/-! ### names that differ: no more of them than of the others -/
theorem nodup_le {α : Type} [DecidableEq α] : ∀ (a b : List α), a.Nodup → (∀ x ∈ a, x ∈ b) → a.length ≤ b.length
  | [], _, _, _ => Nat.zero_le _
  | x :: r, b, nd, h => by
    rw [List.nodup_cons] at nd
    have hx : x ∈ b := h x List.mem_cons_self
    have ih := nodup_le r (b.erase x) nd.2 fun y hy => (List.mem_erase_of_ne (fun e => nd.1 (by rw [← e]; exact hy))).mpr (h y (List.mem_cons_of_mem _ hy))
    rw [List.length_erase_of_mem hx] at ih
    have := List.length_pos_of_mem hx
    simp only [List.length_cons]
    omega
def signs : List Str := abc.cps.toList.map fun c => ⟨#[c]⟩
theorem signs_nodup : signs.Nodup := by
  unfold signs
  rw [abc_list, List.map_map]
  refine List.pairwise_map.mpr (List.nodup_range.imp fun {a b} h e => h ?_)
  have e2 : (#[97 + a] : Array Nat) = #[97 + b] := congrArg Str.cps e
  have e3 : 97 + a = 97 + b := by simpa using congrArg Array.toList e2
  omega
theorem signs_len : signs.length = 26 := by
  unfold signs
  rw [List.length_map, abc_list]; simp
theorem signs_nm {x : Str} (h : x ∈ signs) : Nm x := by
  unfold signs at h
  rw [abc_list] at h
  obtain ⟨c, hc, rfl⟩ := List.mem_map.mp h
  obtain ⟨k, hk, rfl⟩ := List.mem_map.mp hc
  have hk : k < 26 := List.mem_range.mp hk
  refine ⟨Nat.le_refl 1, (by show 1 ≤ 8; decide), fun c hc => ?_⟩
  have : c = 97 + k := by simpa using hc
  omega
theorem sign_free {xs : List Str} (h : xs.length < 26) : signs.filter (fun x => decide (x ∉ xs)) ≠ [] := fun e => by
  have all : ∀ x ∈ signs, x ∈ xs := fun x hx => by
    by_cases q : x ∈ xs
    · exact q
    · have m : x ∈ signs.filter (fun x => decide (x ∉ xs)) := List.mem_filter.mpr ⟨hx, decide_eq_true q⟩
      rw [e] at m; cases m
  have := nodup_le signs xs signs_nodup all
  rw [signs_len] at this
  omega
theorem inV_str (x : Str) (xs : List Str) : inV (.str x) (xs.map V.str) = decide (x ∈ xs) := by
  induction xs with
  | nil => rfl
  | cons y r ih =>
    have e : inV (.str x) ((y :: r).map V.str) = (eqV (.str y) (.str x) || inV (.str x) (r.map V.str)) := rfl
    rw [e, ih]
    by_cases q : y = x
    · subst q
      have : eqV (.str y) (.str y) = true := by show (y == y) = true; exact beq_self_eq_true _
      rw [this, Bool.true_or, decide_eq_true List.mem_cons_self]
    · have : eqV (.str y) (.str x) = false := by show (y == x) = false; exact beq_eq_false_iff_ne.mpr q
      rw [this, Bool.false_or]
      refine decide_eq_decide.mpr ⟨fun h => List.mem_cons_of_mem _ h, fun h => ?_⟩
      rcases List.mem_cons.mp h with z | z
      · exact absurd z.symm q
      · exact z
theorem flat_strs (xs : List Str) : (xs.map V.str).all flatV = true := by
  rw [List.all_map, List.all_eq_true]
  intro _ _; rfl

/-! ### targets within a comprehension's block -/
theorem pg_tupK {X : Cx} {K : PySem.W.Frag} {es : List Expr} {kk : Nat} {pos : Pos} {t : TGs} {n : Nat} (hK : X.K = K) (hc : X.calm = true) (h : PGs X es t)
    (hn : (assignEach es X.env).length = n := by rfl) (hs : (assignEach es X.env).findIdx? (·.1) = none := by rfl) : PG X (.Tuple es kk pos) (gTup K n t) := by
  subst hK
  exact pg_tup hc h hn hs
end Fk

set_option Elab.async false
set_option linter.all false
set_option maxRecDepth 100000
set_option maxHeartbeats 4000000
namespace Fk
open PySem PySem.Spec PyProof.Rows L2
section
variable {P : Program} {w : World} {K : PySem.W.Frag} {mg : Str → Option Value} {base : Heap} {f : Addr} {fd : FuncData}
/-! ### _law_mixed: some int -/
def spMixed : Sp := fun vs H Q _ => ∃ s t : Int, vs = [.int s, .int t] ∧ ∀ r : Int, Q (.int r) H
theorem sc__law_mixed : FnScope ["_law_seed", "_law_turn", "_law_once", "_law_twice"] ["_law_seed", "_law_turn"] (defScope (top 36)) := ⟨rfl, rfl, rfl, by decide +kernel, rfl, by decide +kernel, by decide +kernel⟩
theorem ok_mixed (T : Free mg) (F : Std K "_law_mixed" "_law_mixed" (top 36) f fd) (hm : mg "_law_mixed" = some (.ref f)) : Cal P w K mg base 1 "_law_mixed" spMixed := by
  refine cal_of F hm (fun _ _ _ _ _ _ us hl => match us, hl with | [_, _], _ => rfl) sc__law_mixed (fun vs H Q E h => ?_) (fun cdv A outer s H vs Q E hr h => ?_)
  · obtain ⟨a, b, rfl, _⟩ := h; rfl
  · obtain ⟨a, b, rfl, k⟩ := h
    refine ⟨_, (pss_cons (ps_set (i := 2) sc__law_mixed.nd rfl (.inl rfl) (pe_op op_mod (pe_int1 T.int (pa_cons (pe_op op_add (pe_op op_add (pe_op op_mul (pv 0) pe_int) (pe_op op_mul (pv 1) pe_int)) pe_int) pa_nil)) pe_int))
        (pss_cons (ps_set (i := 3) sc__law_mixed.nd rfl (.inl rfl) (pe_op op_mod (pe_int1 T.int (pa_cons (pe_op op_add (pe_op op_mul (pv 2) (pv 2)) (pv 0)) pa_nil)) pe_int))
        (pss_one (ps_ret (pe_op op_fdiv (pe_op op_mod (pe_int1 T.int (pa_cons (pe_op op_add (pe_op op_mul (pv 3) (pv 3)) (pv 1)) pa_nil)) pe_int) pe_int))))), ?_⟩
    refine ⟨_, rfl, _, _, rfl, rfl, .inr (by decide), _, rfl, _, _, rfl, rfl, .inr (by decide), _, _, rfl, rfl, _, _, rfl, rfl, .inl ⟨_, rfl, _, _, rfl, rfl, (by show (0 : Int) < 2147483647; decide), ?_⟩⟩
    have h1 : ∀ z : Int, -(2 ^ 64) < z % 2147483647 ∧ z % 2147483647 < 2 ^ 64 := fun z => by omega
    refine ⟨_, rfl, _, rfl, _, _, rfl, rfl, .inl (h1 _), _, rfl, _, _, rfl, rfl, .inl ⟨_, rfl, _, _, rfl, rfl, (by show (0 : Int) < 2147483629; decide), ?_⟩⟩
    have h2 : ∀ z : Int, -(2 ^ 64) < z % 2147483629 ∧ z % 2147483629 < 2 ^ 64 := fun z => by omega
    refine ⟨_, rfl, _, rfl, _, _, rfl, rfl, .inl (h2 _), _, rfl, _, _, rfl, rfl, .inl ⟨_, rfl, _, _, rfl, rfl, (by show (0 : Int) < 2147483587; decide), ?_⟩⟩
    exact ⟨_, _, rfl, rfl, ⟨by decide, by decide⟩, k _⟩

/-! ### _law_box -/
def spBox (K : PySem.W.Frag) : Sp := fun vs H Q _ => ∃ (a : Addr) (k : Nat) (ns : List Int), vs = [.ref a, .int (k : Int)] ∧ SqL K H a (ns.map V.int) ∧ ∀ H' p, Same H H' → H p = none → Bx H' p → Q (.ref p) H'
theorem sc__law_box : FnScope ["_law_script", "_law_k", "_law_seed", "_law_cell", "_law_rest"] ["_law_script", "_law_k"] (defScope (top 37)) := ⟨rfl, rfl, rfl, by decide +kernel, rfl, by decide +kernel, by decide +kernel⟩
theorem ok_box (T : Free mg) (F : Std K "_law_box" "_law_box" (top 37) f fd) (hm : mg "_law_box" = some (.ref f)) : Cal P w K mg base 1 "_law_box" (spBox K) := by
  refine cal_of F hm (fun _ _ _ _ _ _ us hl => match us, hl with | [_, _], _ => rfl) sc__law_box (fun vs H Q E h => ?_) (fun cdv A outer s H vs Q E hr h => ?_)
  · obtain ⟨a, b, _, rfl, _⟩ := h; rfl
  · obtain ⟨a, kk, ns, rfl, hS, k⟩ := h
    refine ⟨_, (pss_cons (ps_set (i := 2) sc__law_box.nd rfl (.inl rfl) (pe_op op_add pe_int (pe_op op_mul pe_int (pv 1))))
        (pss_cons (ps_for PassesOwn.never rfl (pi_list (pe_slice sl_list (pv 0) po_none (po_some pe_int))) (pg_name (i := 3) sc__law_box.nd rfl (.inl rfl)) (pss_one (ps_set (i := 2) sc__law_box.nd rfl (.inl rfl) (pe_op op_mod (pe_int1 T.int (pa_cons (pe_op op_add (pe_op op_mul (pv 2) pe_int) (pv 3)) pa_nil)) pe_int))))
        (pss_cons (ps_set (i := 4) sc__law_box.nd rfl (.inl rfl) pe_int)
        (pss_cons (ps_if (PW.pt (pw_and (pt_cmpR op_lt (pv 1) (pe_callB call_len_seq (by rfl) T.len (by decide +kernel) (pa_cons (pv 0) pa_nil)) (nomark _)) (pw_and1 (pt_cmpR op_ge (pe_ix ix_list (pv 0) (pv 1) (fun _ _ => rfl)) (pe_op op_pow pe_int pe_int) (nomark _))))) (pss_one (ps_set (i := 4) sc__law_box.nd rfl (.inl rfl) (pe_op op_sub (pe_ix ix_list (pv 0) (pv 1) (fun _ _ => rfl)) (pe_op op_pow pe_int pe_int)))) pss_nil)
        (pss_one (ps_ret (pe_lst (pa_cons (pv 4) (pa_cons (pv 2) (pa_cons pe_int pa_nil)))))))))), ?_⟩
    refine ⟨_, rfl, _, _, rfl, rfl, .inl (by decide), _, _, rfl, rfl, ?_⟩
    refine ⟨_, rfl, _, rfl, a, _, rfl, hS, fun q nq => ⟨q, rfl, ⟨_, SqL.of upd_same⟩, ?_⟩⟩
    refine for_list (K := K) (a := q) (xs := cutV (ns.map V.int) none (some 63)) (fun i σ H2 => ∃ (sd : Int) (v : Option V), σ = [some (.ref a), some (.int (kk : Int)), some (.int sd), v, none] ∧ H2 = upd H q (.lst (cutV (ns.map V.int) none (some 63))))
      ⟨_, none, rfl, rfl⟩ (fun i σ H2 _ ⟨_, _, _, e⟩ => by rw [e]; exact SqL.of upd_same) ?_ ?_
    · rintro i x σ H2 hx ⟨sd, v, rfl, rfl⟩
      obtain ⟨z, rfl⟩ := ints_at (mem_cutV (List.mem_of_getElem? hx))
      exact ⟨_, rfl, _, _, rfl, rfl, .inr (by decide), _, rfl, _, _, rfl, rfl, .inl ⟨_, rfl, _, _, rfl, rfl, (by show (0 : Int) < 2147483647; decide), _, _, rfl, rfl⟩⟩
    · rintro σ H2 ⟨sd, v, rfl, rfl⟩
      have hS2 : SqL K (upd H q (.lst (cutV (ns.map V.int) none (some 63)))) a (ns.map V.int) := (sNew (Same.refl H) nq).seq hS
      have fin : ∀ r : Int, tRet (tLst (tCons (tVar 4) (tCons (tVar 2) (tCons (tC (.int 0)) tNil)))) { nx := fun _ H' => Q .non H', rt := Q } [some (.ref a), some (.int (kk : Int)), some (.int sd), v, some (.int r)] (upd H q (.lst (cutV (ns.map V.int) none (some 63)))) := fun r =>
        ⟨_, rfl, _, rfl, (by show 3 ≤ sizeLine; decide), fun p np => k _ p (sNew (sNew (Same.refl H) nq) np) ((sNew (Same.refl H) nq).free np) ⟨_, _, _, upd_same⟩⟩
      refine ⟨_, rfl, _, rfl, a, _, rfl, .inl hS2, _, _, rfl, rfl, _, rfl, ?_⟩
      refine ite2 (fun c => ?_) (fun c => ?_)
      · have hk : kk < ns.length := by
          have := of_decide_eq_true c
          rw [List.length_map] at this
          omega
        have hv : (ns.map V.int)[kk]? = some (V.int ns[kk]) := by simp [hk]
        refine ⟨_, rfl, _, rfl, a, _, _, _, rfl, rfl, hS2, atI_nat hv, _, _, rfl, rfl, ⟨by decide, by decide, by decide⟩, _, _, rfl, rfl, _, rfl, ?_⟩
        refine ite2 (fun c2 => ?_) (fun c2 => ?_)
        · exact ⟨_, rfl, _, rfl, a, _, _, _, rfl, rfl, hS2, atI_nat hv, _, _, rfl, rfl, ⟨by decide, by decide, by decide⟩, _, _, rfl, rfl, fin _⟩
        · exact fin 0
      · exact fin 0

/-! ### _law_take: some digit -/
def spTake : Sp := fun vs H Q _ => ∃ (b : Addr) (m : Int), vs = [.ref b, .int m] ∧ Bx H b ∧ 0 < m ∧ m < 1073741824 ∧ ∀ (d : Int) H', 0 ≤ d → d < m → But b H H' → Bx H' b → Q (.int d) H'
theorem sc__law_take : FnScope ["_law_box_here", "_law_many_here", "_law_digit"] ["_law_box_here", "_law_many_here"] (defScope (top 38)) := ⟨rfl, rfl, rfl, by decide +kernel, rfl, by decide +kernel, by decide +kernel⟩
theorem ok_take (T : Free mg) (C__law_mixed : Cal P w K mg base 1 "_law_mixed" spMixed) (F : Std K "_law_take" "_law_take" (top 38) f fd) (hm : mg "_law_take" = some (.ref f)) : Cal P w K mg base 2 "_law_take" spTake := by
  refine cal_of F hm (fun _ _ _ _ _ _ us hl => match us, hl with | [_, _], _ => rfl) sc__law_take (fun vs H Q E h => ?_) (fun cdv A outer s H vs Q E hr h => ?_)
  · obtain ⟨a, b, rfl, _⟩ := h; rfl
  · obtain ⟨b, m, rfl, ⟨r, sd, tn, hb⟩, m0, m1, k⟩ := h
    refine ⟨_, (pss_cons (ps_asg (pe_op op_add (pe_ix ix_list (pv 0) pe_int (fun _ _ => rfl)) pe_int) (pg_sub (pv 0) pe_int set_list))
        (pss_cons (ps_if (pt_cmpR op_gt (pe_ix ix_list (pv 0) pe_int (fun _ _ => rfl)) pe_int (nomark _)) (pss_cons (ps_set (i := 2) sc__law_take.nd rfl (.inl rfl) (pe_op op_mod (pe_int1 T.int (pa_cons (pe_ix ix_list (pv 0) pe_int (fun _ _ => rfl)) pa_nil)) (pv 1)))
        (pss_cons (ps_asg (pe_op op_fdiv (pe_ix ix_list (pv 0) pe_int (fun _ _ => rfl)) (pv 1)) (pg_sub (pv 0) pe_int set_list))
        (pss_one (ps_ret (pv 2))))) pss_nil)
        (pss_one (ps_ret (pe_op op_mod (pe_int1 T.int (pa_cons (pe_f C__law_mixed hr (pa_cons (pe_ix ix_list (pv 0) pe_int (fun _ _ => rfl)) (pa_cons (pe_ix ix_list (pv 0) pe_int (fun _ _ => rfl)) pa_nil))) pa_nil)) (pv 1)))))), ?_⟩
    have e1 : (upd H b (.lst [.int r, .int sd, .int (tn + 1)])) b = some (.lst [.int r, .int sd, .int (tn + 1)]) := upd_same
    refine ⟨_, rfl, b, _, _, _, rfl, rfl, SqL.of hb, rfl, _, _, rfl, rfl, _, rfl, b, _, _, 2, rfl, rfl, hb, rfl, ?_⟩
    show tSeq _ _ _ _ (upd H b (.lst [.int r, .int sd, .int (tn + 1)]))
    refine ⟨_, rfl, b, _, _, _, rfl, rfl, SqL.of e1, rfl, _, _, rfl, rfl, _, rfl, ?_⟩
    refine ite2 (fun c => ?_) (fun c => ?_)
    · refine ⟨_, rfl, b, _, _, _, rfl, rfl, SqL.of e1, rfl, .inl ⟨_, rfl, _, rfl, _, _, rfl, rfl, m0, ?_⟩⟩
      refine ⟨_, rfl, b, _, _, _, rfl, rfl, SqL.of e1, rfl, _, rfl, _, _, rfl, rfl, ⟨m0, m1⟩, _, rfl, b, _, _, 0, rfl, rfl, e1, rfl, _, rfl, ?_⟩
      exact k _ _ (Int.emod_nonneg _ (by omega)) (Int.emod_lt_of_pos _ m0) (But.upd.trans But.upd) ⟨_, _, _, upd_same⟩
    · refine ⟨_, rfl, b, _, _, _, rfl, rfl, SqL.of e1, rfl, _, rfl, b, _, _, _, rfl, rfl, SqL.of e1, rfl, _, _, rfl, fun z => .inl ⟨_, rfl, _, rfl, _, _, rfl, rfl, m0, ?_⟩⟩
      exact k _ _ (Int.emod_nonneg _ (by omega)) (Int.emod_lt_of_pos _ m0) But.upd ⟨_, _, _, upd_same⟩
end
end Fk

set_option Elab.async false
set_option linter.all false
set_option maxRecDepth 100000
set_option maxHeartbeats 4000000
namespace Fk
open PySem PySem.Spec PyProof.Rows L2
section
variable {P : Program} {w : World} {K : PySem.W.Frag} {mg : Str → Option Value} {base : Heap} {f : Addr} {fd : FuncData}
/-! ### _law_word -/
def spWord : Sp := fun vs H Q _ => ∃ (b : Addr) (n : Nat), vs = [.ref b, .int (n : Int)] ∧ Bx H b ∧ n ≤ 8 ∧ ∀ (x : Str) H', x.length = n → Low x → But b H H' → Bx H' b → Q (.str x) H'
theorem sc__law_word : FnScope ["_law_box_here", "_law_size", "_law_word_here", "_law_k"] ["_law_box_here", "_law_size"] (defScope (top 39)) := ⟨rfl, rfl, rfl, by decide +kernel, rfl, by decide +kernel, by decide +kernel⟩
theorem ok_word (T : Free mg) (C__law_take : Cal P w K mg base 2 "_law_take" spTake) (F : Std K "_law_word" "_law_word" (top 39) f fd) (hm : mg "_law_word" = some (.ref f)) : Cal P w K mg base 3 "_law_word" spWord := by
  refine cal_of F hm (fun _ _ _ _ _ _ us hl => match us, hl with | [_, _], _ => rfl) sc__law_word (fun vs H Q E h => ?_) (fun cdv A outer s H vs Q E hr h => ?_)
  · obtain ⟨a, b, rfl, _⟩ := h; rfl
  · obtain ⟨b, n, rfl, bx, hn, k⟩ := h
    refine ⟨_, (pss_cons (ps_set (i := 2) sc__law_word.nd rfl (.inl rfl) pe_str)
        (pss_cons (ps_for PassesOwn.never rfl (pi_range1 (by rfl) T.range (pa_cons (pv 1) pa_nil)) (pg_name (i := 3) sc__law_word.nd rfl (.inl rfl)) (pss_one (ps_set (i := 2) sc__law_word.nd rfl (.inl rfl) (pe_op op_add_str (pv 2) (pe_ix ix_str pe_str (pe_f C__law_take hr (pa_cons (pv 0) (pa_cons pe_int pa_nil))) (fun _ _ => rfl))))))
        (pss_one (ps_ret (pv 2))))), ?_⟩
    refine ⟨_, rfl, _, rfl, by omega, by omega, ?_⟩
    refine for_range (lo := 0) (n := n) (fun i σ H' => ∃ (x : Str) (v : Option V), σ = [some (.ref b), some (.int (n : Int)), some (.str x), v] ∧ x.length = i ∧ Low x ∧ But b H H' ∧ Bx H' b)
      ⟨_, none, rfl, rfl, low_nil, But.refl _ _, bx⟩ ?_ ?_
    · rintro i σ H1 hi ⟨x, v, rfl, hx, lx, bt, bx1⟩
      refine ⟨_, rfl, _, rfl, b, 26, rfl, bx1, by decide, by decide, fun d H2 d0 d1 bt2 bx2 => ?_⟩
      obtain ⟨c, hc, c0, c1⟩ := abc_at d0 d1
      refine ⟨_, _, _, rfl, rfl, (by decide +kernel), hc, _, _, rfl, rfl, small_line (by rw [hx]; show i + 1 ≤ 1000; omega), ?_⟩
      refine ⟨_, _, rfl, by rw [str_cat_len, hx]; rfl, fun c' hc' => ?_, bt.trans bt2, bx2⟩
      rw [str_cat] at hc'
      rcases List.mem_append.mp hc' with h | h
      · exact lx c' h
      · have : c' = c := by simpa using h
        subst this; exact ⟨c0, c1⟩
    · rintro σ H1 ⟨x, v, rfl, hx, lx, bt, bx1⟩
      exact ⟨_, rfl, k x H1 hx lx bt bx1⟩
/-! ### _law_many -/
def spMany : Sp := fun vs H Q _ => ∃ (b : Addr), vs = [.ref b] ∧ Bx H b ∧ ∀ (n : Nat) H', 1 ≤ n → n ≤ 12 → But b H H' → Bx H' b → Q (.int (n : Int)) H'
theorem sc__law_many : FnScope ["_law_box_here", "_law_most"] ["_law_box_here"] (defScope (top 42)) := ⟨rfl, rfl, rfl, by decide +kernel, rfl, by decide +kernel, by decide +kernel⟩
theorem ok_many (C__law_take : Cal P w K mg base 2 "_law_take" spTake) (F : Std K "_law_many" "_law_many" (top 42) f fd) (hm : mg "_law_many" = some (.ref f)) : Cal P w K mg base 3 "_law_many" spMany := by
  refine cal_of F hm (fun _ _ _ _ _ _ us hl => match us, hl with | [_], _ => rfl) sc__law_many (fun vs H Q E h => ?_) (fun cdv A outer s H vs Q E hr h => ?_)
  · obtain ⟨b, rfl, _⟩ := h; rfl
  · obtain ⟨b, rfl, bx, k⟩ := h
    refine ⟨_, (pss_cons (ps_set (i := 1) sc__law_many.nd rfl (.inl rfl) pe_int)
        (pss_cons (ps_if (pt_cmpR op_eq (pe_f C__law_take hr (pa_cons (pv 0) (pa_cons pe_int pa_nil))) pe_int (nomark _)) (pss_one (ps_set (i := 1) sc__law_many.nd rfl (.inl rfl) pe_int)) pss_nil)
        (pss_one (ps_ret (pe_op op_add pe_int (pe_f C__law_take hr (pa_cons (pv 0) (pa_cons (pv 1) pa_nil)))))))), ?_⟩
    refine ⟨_, rfl, b, 8, rfl, bx, by decide, by decide, fun d H1 d0 d1 bt bx1 => ⟨rfl, _, rfl, ?_⟩⟩
    have fin : ∀ m : Int, 0 < m → m ≤ 12 → tRet (tOp (rI0 fun i j => .int (i + j)) (tC (.int 1)) (tCall spTake [] E0 (tCons (tVar 0) (tCons (tVar 1) tNil)))) { nx := fun _ H' => Q .non H', rt := Q } [some (.ref b), some (.int m)] H1 := fun m m0 m1 => by
      refine ⟨_, rfl, _, rfl, b, m, rfl, bx1, m0, by omega, fun e H2 e0 e1 bt2 bx2 => ⟨_, _, rfl, rfl, ?_⟩⟩
      have z := k (1 + e).toNat H2 (by omega) (by omega) (bt.trans bt2) bx2
      have q : (((1 + e).toNat : Nat) : Int) = 1 + e := by omega
      rw [q] at z
      exact z
    refine ite2 (fun c => ?_) (fun c => ?_)
    · exact fin 12 (by decide) (by decide)
    · exact fin 6 (by decide) (by decide)
/-! ### _law_names -/
def spNames : Sp := fun vs H Q _ => ∃ (b : Addr) (n : Nat), vs = [.ref b, .int (n : Int)] ∧ Bx H b ∧ n ≤ 12 ∧ ∀ (xs : List Str) p H', xs.length = n → xs.Nodup → (∀ x ∈ xs, Nm x) → But b H H' → Bx H' b → H p = none → H' p = some (.lst (xs.map V.str)) → Q (.ref p) H'
theorem sc__law_names : FnScope ["_law_box_here", "_law_many_here", "_law_style", "_law_stem", "_law_names_here", "_law_k", "_law_name", "_law_one"] ["_law_box_here", "_law_many_here"] (defScope (top 40)) := ⟨rfl, rfl, rfl, by decide +kernel, rfl, by decide +kernel, by decide +kernel⟩
theorem ok_names (T : Free mg) (C__law_take : Cal P w K mg base 2 "_law_take" spTake) (C__law_word : Cal P w K mg base 3 "_law_word" spWord) (F : Std K "_law_names" "_law_names" (top 40) f fd) (hm : mg "_law_names" = some (.ref f)) : Cal P w K mg base 4 "_law_names" spNames := by
  refine cal_of F hm (fun _ _ _ _ _ _ us hl => match us, hl with | [_, _], _ => rfl) sc__law_names (fun vs H Q E h => ?_) (fun cdv A outer s H vs Q E hr h => ?_)
  · obtain ⟨b, n, rfl, _⟩ := h; rfl
  · obtain ⟨b, n, rfl, bx, hn, k⟩ := h
    refine ⟨_, (pss_cons (ps_set (i := 2) sc__law_names.nd rfl (.inl rfl) (pe_f C__law_take hr (pa_cons (pv 0) (pa_cons pe_int pa_nil))))
        (pss_cons (ps_set (i := 3) sc__law_names.nd rfl (.inl rfl) (pe_f C__law_word hr (pa_cons (pv 0) (pa_cons (pe_op op_add pe_int (pe_f C__law_take hr (pa_cons (pv 0) (pa_cons pe_int pa_nil)))) pa_nil))))
        (pss_cons (ps_set (i := 4) sc__law_names.nd rfl (.inr rfl) (pe_lst pa_nil))
        (pss_cons (ps_for PassesOwn.never rfl (pi_range1 (by rfl) T.range (pa_cons (pv 1) pa_nil)) (pg_name (i := 5) sc__law_names.nd rfl (.inl rfl)) (C8.pss_cut (ps_if (pt_cmpR op_eq (pv 2) pe_int (nomark _)) (pss_one (ps_set (i := 6) sc__law_names.nd rfl (.inl rfl) (pe_f C__law_word hr (pa_cons (pv 0) (pa_cons pe_int pa_nil))))) (pss_one (ps_if (pt_cmpR op_eq (pv 2) pe_int (nomark _)) (pss_one (ps_set (i := 6) sc__law_names.nd rfl (.inl rfl) (pe_op op_add_str (pv 3) (pe_f C__law_word hr (pa_cons (pv 0) (pa_cons (pe_f C__law_take hr (pa_cons (pv 0) (pa_cons (pe_op op_sub pe_int (pe_callB call_len_str (by rfl) T.len (by decide +kernel) (pa_cons (pv 3) pa_nil))) pa_nil))) pa_nil)))))) (pss_one (ps_set (i := 6) sc__law_names.nd rfl (.inl rfl) (pe_f C__law_word hr (pa_cons (pv 0) (pa_cons (pe_op op_add pe_int (pe_f C__law_take hr (pa_cons (pv 0) (pa_cons pe_int pa_nil)))) pa_nil))))))))
        (C8.pss_cut (ps_if (pt_cmpR op_in_seq (pv 6) (pv 4) (by rfl)) (pss_one (ps_set (i := 6) sc__law_names.nd rfl (.inl rfl) (pe_ix ix_list (pe_lc rfl sc__law_names.nd (pi_str pe_str) (blkOk_by (own := [("_law_one", 7)]) (N := ["_law_box_here", "_law_many_here", "_law_style", "_law_stem", "_law_names_here", "_law_k", "_law_name", "_law_one"]) (sc := defScope (top 40)) (by decide +kernel)) (fun _ _ _ _ _ => (pg_name (i := 7) sc__law_names.nd rfl (.inl rfl))) (fun _ _ _ _ _ => (pts_one (pt_cmpR (show OpR _ (compareOp .NotIn) (rIn K true) from op_notIn_seq) (pv 7) (pv 4) (by rfl)))) (fun _ _ _ _ _ => (pv 7))) pe_int (fun _ _ => rfl)))) pss_nil)
        (pss_one (ps_expr (pe_bm PySem.F.plainAttrs_list PySem.F.slot_list_append PySem.F.type_list_append mt_append (pv 4) (pa_cons (pv 6) pa_nil)))))))
        (pss_one (ps_ret (pv 4))))))), ?_⟩
    -- style, stem
    refine ⟨_, rfl, b, 4, rfl, bx, by decide, by decide, fun st H1 s0 s1 bt1 bx1 => ?_⟩
    refine ⟨_, rfl, _, rfl, b, 7, rfl, bx1, by decide, by decide, fun d H2 d0 d1 bt2 bx2 => ⟨_, _, rfl, rfl, ?_⟩⟩
    refine ⟨b, (1 + d).toNat, (by rw [show (((1 + d).toNat : Nat) : Int) = 1 + d by omega]; rfl), bx2, by omega, fun stem H3 hst lst bt3 bx3 => ?_⟩
    -- []
    refine ⟨Nat.zero_le _, fun q nq => ?_⟩
    have bt03 : But b H H3 := (bt1.trans bt2).trans bt3
    have nqH : H q = none := bt03.free bx3 nq
    have qb : q ≠ b := fun e => by
      obtain ⟨r, s', t, z⟩ := bx3
      rw [e, z] at nq; cases nq
    -- the loop
    refine ⟨_, rfl, _, rfl, by omega, by omega, ?_⟩
    refine for_range (lo := 0) (n := n) (fun i σ H' => ∃ (xs : List Str) (v v' v'' : Option V), σ = [some (.ref b), some (.int (n : Int)), some (.int st), some (.str stem), some (.ref q), v, v', v''] ∧ xs.length = i ∧ xs.Nodup ∧ (∀ x ∈ xs, Nm x) ∧ But b H H' ∧ Bx H' b ∧ H' q = some (.lst (xs.map V.str)))
      ⟨[], none, none, none, rfl, rfl, List.nodup_nil, (fun x hx => nomatch hx), bt03.new nq, (by obtain ⟨r, s', t, z⟩ := bx3; exact ⟨r, s', t, by rw [upd_ne (Ne.symm qb)]; exact z⟩), upd_same⟩ ?_ ?_
    · rintro i σ H4 hi ⟨xs, v, v', v'', rfl, hx, nd, nm, bt4, bx4, hq⟩
      have hlt : xs.length < 12 := by omega
      let M (ni : Bool) (σ' : L2.St) (H5 : Hp) : Prop := ∃ (x : Str) (vv : Option V), σ' = [some (.ref b), some (.int (n : Int)), some (.int st), some (.str stem), some (.ref q), some (V.int (0 + (i : Int))), some (.str x), vv] ∧ Nm x ∧ (ni = true → x ∉ xs) ∧ But b H H5 ∧ Bx H5 b ∧ H5 q = some (.lst (xs.map V.str))
      refine ⟨M false, ?_, fun σ1 H5 hm1 => ⟨M true, ?_, fun σ2 H6 hm2 => ?_⟩⟩
      · -- the three styles
        refine ⟨_, rfl, rfl, _, rfl, ite2 (fun c => ?_) (fun c => ?_)⟩
        · refine ⟨_, rfl, b, 1, rfl, bx4, by decide, fun x H5 hx1 lx bt5 bx5 => ?_⟩
          exact ⟨x, _, rfl, ⟨by omega, by omega, lx⟩, fun z => (nomatch z), bt4.trans bt5, bx5, bt5 _ _ qb hq⟩
        · refine ⟨_, rfl, rfl, _, rfl, ite2 (fun c => ?_) (fun c => ?_)⟩
          · refine ⟨_, rfl, _, rfl, _, rfl, _, rfl, _, rfl, small_line (n := stem.length) (by omega), _, _, rfl, rfl, b, 9 - (stem.length : Int), rfl, bx4, by omega, by omega, fun e H5 e0 e1 bt5 bx5 => ?_⟩
            refine ⟨b, e.toNat, (by rw [show ((e.toNat : Nat) : Int) = e by omega]; rfl), bx5, by omega, fun x H6 hx1 lx bt6 bx6 => ?_⟩
            refine ⟨_, _, rfl, rfl, small_line (n := stem.length + x.length) (by omega), stem ++ x, _, rfl, ⟨?_, ?_, fun ch hc => ?_⟩, fun z => (nomatch z), bt4.trans (bt5.trans bt6), bx6, bt6 _ _ qb (bt5 _ _ qb hq)⟩
            · rw [str_cat_len]; omega
            · rw [str_cat_len]; omega
            · rw [str_cat] at hc
              rcases List.mem_append.mp hc with z | z
              · exact lst ch z
              · exact lx ch z
          · refine ⟨_, rfl, _, rfl, b, 8, rfl, bx4, by decide, by decide, fun e H5 e0 e1 bt5 bx5 => ⟨_, _, rfl, rfl, ?_⟩⟩
            refine ⟨b, (1 + e).toNat, (by rw [show (((1 + e).toNat : Nat) : Int) = 1 + e by omega]; rfl), bx5, by omega, fun x H6 hx1 lx bt6 bx6 => ?_⟩
            exact ⟨x, _, rfl, ⟨by omega, by omega, lx⟩, fun z => (nomatch z), bt4.trans (bt5.trans bt6), bx6, bt6 _ _ qb (bt5 _ _ qb hq)⟩
      · -- a name that stands already
        obtain ⟨x, vv, rfl, nx, _, bt5, bx5, hq5⟩ := hm1
        refine ⟨_, rfl, _, rfl, q, _, rfl, .inl (SqL.of hq5), rfl, flat_strs _, _, rfl, ?_⟩
        refine ite2 (fun c => ?_) (fun c => ?_)
        · -- a free letter
          refine ⟨_, rfl, fun D hD => ?_⟩
          have qD : q ≠ D := ne_of_none hq5 hD
          refine lc_it walk_str (fun j H6 => H6 = upd H5 D (.lst (((signs.take j).filter (fun z => decide (z ∉ xs))).map V.str))) (by simp) (fun _ _ _ _ => trivial) ?_ ?_
          · rintro j y H6 H7 hj rfl ⟨rfl, ch, hc, rfl⟩
            have hs : signs[j]? = some ⟨#[ch]⟩ := by
              unfold signs
              rw [List.getElem?_map, Array.getElem?_toList, hc]; rfl
            have e1 : signs.take (j + 1) = signs.take j ++ [⟨#[ch]⟩] := by rw [List.take_add_one, hs]; rfl
            refine ⟨rfl, _, rfl, _, rfl, q, _, rfl, .inl (SqL.of (by rw [upd_ne qD]; exact hq5)), rfl, flat_strs _, _, rfl, ?_⟩
            show if (!inV (.str ⟨#[ch]⟩) (xs.map V.str)) = true then _ else _
            rw [inV_str]
            by_cases m : (⟨#[ch]⟩ : Str) ∈ xs
            · rw [decide_eq_true m]
              refine iteF ?_
              rw [e1, List.filter_append]
              simp [m]
            · rw [decide_eq_false m]
              refine iteT ⟨_, rfl, _, upd_same, small_line' ?_, ?_⟩
              · rw [List.length_map]
                refine Nat.le_trans (List.length_filter_le _ _) ?_
                rw [List.length_take, signs_len]; omega
              · rw [upd_upd, e1, List.filter_append]
                simp [m]
          · rintro H6 rfl
            have n0 : signs.take abc.cps.size = signs := List.take_of_length_le (by rw [signs_len]; exact Nat.le_of_eq abc_len.symm)
            obtain ⟨y, r, hy⟩ := List.exists_cons_of_ne_nil (sign_free (xs := xs) (by omega))
            have my : y ∈ signs.filter (fun z => decide (z ∉ xs)) := by rw [hy]; exact List.mem_cons_self
            have hy1 := (List.mem_filter.mp my).1
            have hy2 := of_decide_eq_true (List.mem_filter.mp my).2
            refine ⟨D, _, _, .str y, rfl, rfl, SqL.of upd_same, ?_, y, vv, rfl, signs_nm hy1, fun _ => hy2, bt5.new hD, ?_, by rw [upd_ne qD]; exact hq5⟩
            · rw [n0, hy]; exact atI_nat (j := 0) rfl
            · obtain ⟨r, s', t, z⟩ := bx5
              exact ⟨r, s', t, by rw [upd_ne (ne_of_none z hD)]; exact z⟩
        · have ni : x ∉ xs := by
            intro m
            apply c
            show inV (.str x) (xs.map V.str) = true
            rw [inV_str]; exact decide_eq_true m
          exact ⟨x, vv, rfl, nx, fun _ => ni, bt5, bx5, hq5⟩
      · -- put at the end
        obtain ⟨x, vv, rfl, nx, ni, bt5, bx5, hq5⟩ := hm2
        have ni := ni rfl
        refine ⟨_, rfl, .inl ⟨rfl, _, SqL.of hq5⟩, _, rfl, q, _, _, rfl, rfl, hq5, small_line' (by rw [List.length_map]; omega), ?_⟩
        refine ⟨xs ++ [x], _, _, _, rfl, by simp [hx], ?_, fun y hy => ?_, bt5.own nqH, ?_, by rw [upd_same, List.map_append]; rfl⟩
        · refine List.nodup_append.mpr ⟨nd, by simp, fun y hy z hz e => ni ?_⟩
          have h1 : z = x := by simpa using hz
          rw [← h1, ← e]; exact hy
        · rcases List.mem_append.mp hy with z | z
          · exact nm y z
          · have : y = x := by simpa using z
            rw [this]; exact nx
        · obtain ⟨r, s', t, z⟩ := bx5
          exact ⟨r, s', t, by rw [upd_ne (Ne.symm qb)]; exact z⟩
    · rintro σ H4 ⟨xs, v, v', v'', rfl, hx, nd, nm, bt4, bx4, hq⟩
      exact ⟨_, rfl, k xs q H4 hx nd nm bt4 bx4 nqH hq⟩
end
end Fk

set_option Elab.async false
set_option linter.all false
set_option maxRecDepth 100000
set_option maxHeartbeats 4000000
namespace Fk
open PySem PySem.Spec PyProof.Rows L2
section
variable {P : Program} {w : World} {K : PySem.W.Frag} {mg : Str → Option Value} {base : Heap} {f : Addr} {fd : FuncData}
/-! ### _law_tree -/
def lvs (ps : List (V × Tr)) : List Str := ps.flatMap fun p => p.2.leaves
theorem lvs_perm {a b : List (V × Tr)} (h : a.Perm b) : (lvs a).Perm (lvs b) := h.flatMap_right _
def spTree : Sp := fun vs H Q _ => ∃ (b q : Addr) (xs : List Str), vs = [.ref b, .ref q] ∧ Bx H b ∧ H q = some (.lst (xs.map V.str)) ∧ q ≠ b ∧ 1 ≤ xs.length ∧ xs.length ≤ 12 ∧ ∀ (t : Tr) (v : V) H', t.leaves.Perm xs → TrV H' v t → But b H H' → Bx H' b → Q v H'
theorem seqIx {n : Nat} {i : Int} (h0 : 0 ≤ i) (h1 : i < n) : seqIndex? i n = some i.toNat := by
  have e : atI ((List.range n).map fun _ => ()) i = some () := by
    obtain ⟨k, rfl⟩ : ∃ k : Nat, i = (k : Int) := ⟨i.toNat, by omega⟩
    refine atI_nat ?_
    rw [List.getElem?_map, List.getElem?_range (by omega)]; rfl
  obtain ⟨j, hj, hj2, _, _⟩ := atI_get e
  rw [List.length_map, List.length_range] at hj
  rw [hj]
  have := (ixN_seq (n := n) (i := i) (j := i.toNat) (by unfold ixN; rw [if_pos h0, if_pos h1])).1
  rw [← hj, this]
theorem erase_perm {α : Type} : ∀ (l : List α) (i : Nat) (x : α), l[i]? = some x → (x :: l.eraseIdx i).Perm l
  | [], _, _, h => by simp at h
  | a :: r, 0, x, h => by
    have : a = x := by simpa using h
    subst this; exact .refl _
  | a :: r, i + 1, x, h => by
    have ih := erase_perm r i x (by simpa using h)
    exact (List.Perm.swap a x (r.eraseIdx i)).trans (ih.cons a)
theorem erase_map {α β : Type} (f : α → β) : ∀ (l : List α) (i : Nat), (l.map f).eraseIdx i = (l.eraseIdx i).map f
  | [], _ => rfl
  | _ :: _, 0 => rfl
  | a :: r, i + 1 => congrArg (f a :: ·) (erase_map f r i)
/-- a tree taken out of the list at l -/
theorem pop_one {ps : List (V × Tr)} {i : Nat} (h : i < ps.length) : ∃ p ps', (p :: ps').Perm ps ∧ ps[i]? = some p ∧ ps.eraseIdx i = ps' ∧ ps'.length + 1 = ps.length ∧ (ps.map (·.1))[i]? = some p.1 ∧ (ps.map (·.1)).eraseIdx i = ps'.map (·.1) := by
  refine ⟨ps[i], ps.eraseIdx i, erase_perm _ _ _ (List.getElem?_eq_getElem h), List.getElem?_eq_getElem h, rfl, ?_, ?_, ?_⟩
  · rw [List.length_eraseIdx_of_lt h]; omega
  · rw [List.getElem?_map, List.getElem?_eq_getElem h]; rfl
  · exact erase_map _ _ _
theorem sc__law_tree : FnScope ["_law_box_here", "_law_names_here", "_law_parts", "_law_bent", "_law_k", "_law_first", "_law_second"] ["_law_box_here", "_law_names_here"] (defScope (top 41)) := ⟨rfl, rfl, rfl, by decide +kernel, rfl, by decide +kernel, by decide +kernel⟩
theorem ok_tree (T : Free mg) (C__law_take : Cal P w K mg base 2 "_law_take" spTake) (F : Std K "_law_tree" "_law_tree" (top 41) f fd) (hm : mg "_law_tree" = some (.ref f)) : Cal P w K mg base 3 "_law_tree" spTree := by
  refine cal_of F hm (fun _ _ _ _ _ _ us hl => match us, hl with | [_, _], _ => rfl) sc__law_tree (fun vs H Q E h => ?_) (fun cdv A outer s H vs Q E hr h => ?_)
  · obtain ⟨b, q, xs, rfl, _⟩ := h; rfl
  · obtain ⟨b, q, xs, rfl, bx, hq, qb, n1, n12, k⟩ := h
    refine ⟨_, (pss_cons (ps_set (i := 2) sc__law_tree.nd rfl (.inl rfl) (pe_callTy call_list_of (by rfl) T.list (by decide +kernel) (pa_cons (pv 1) pa_nil)))
        (pss_cons (ps_set (i := 3) sc__law_tree.nd rfl (.inl rfl) (pe_f C__law_take hr (pa_cons (pv 0) (pa_cons pe_int pa_nil))))
        (pss_cons (ps_for PassesOwn.never rfl (pi_range1 (by rfl) T.range (pa_cons (pe_op op_sub (pe_callB call_len_seq (by rfl) T.len (by decide +kernel) (pa_cons (pv 1) pa_nil)) pe_int) pa_nil)) (pg_name (i := 4) sc__law_tree.nd rfl (.inl rfl)) (C8.pss_cut (ps_if (pt_cmpR op_eq (pv 3) pe_int (nomark _)) (pss_one (ps_set (i := 5) sc__law_tree.nd rfl (.inl rfl) (pe_bm0 PySem.F.plainAttrs_list PySem.F.slot_list_pop PySem.F.type_list_pop mt_pop (pv 2)))) (pss_one (ps_set (i := 5) sc__law_tree.nd rfl (.inl rfl) (pe_bm PySem.F.plainAttrs_list PySem.F.slot_list_pop PySem.F.type_list_pop mt_popAt (pv 2) (pa_cons (pe_f C__law_take hr (pa_cons (pv 0) (pa_cons (pe_callB call_len_seq (by rfl) T.len (by decide +kernel) (pa_cons (pv 2) pa_nil)) pa_nil))) pa_nil)))))
        (pss_cons (ps_set (i := 6) sc__law_tree.nd rfl (.inl rfl) (pe_bm PySem.F.plainAttrs_list PySem.F.slot_list_pop PySem.F.type_list_pop mt_popAt (pv 2) (pa_cons (pe_f C__law_take hr (pa_cons (pv 0) (pa_cons (pe_callB call_len_seq (by rfl) T.len (by decide +kernel) (pa_cons (pv 2) pa_nil)) pa_nil))) pa_nil)))
        (pss_one (ps_if (pt_cmpR op_eq (pe_f C__law_take hr (pa_cons (pv 0) (pa_cons pe_int pa_nil))) pe_int (nomark _)) (pss_one (ps_expr (pe_bm PySem.F.plainAttrs_list PySem.F.slot_list_append PySem.F.type_list_append mt_append (pv 2) (pa_cons (pe_tup (pa_cons (pv 5) (pa_cons (pv 6) pa_nil))) pa_nil)))) (pss_one (ps_expr (pe_bm PySem.F.plainAttrs_list PySem.F.slot_list_append PySem.F.type_list_append mt_append (pv 2) (pa_cons (pe_tup (pa_cons (pv 6) (pa_cons (pv 5) pa_nil))) pa_nil)))))))))
        (pss_one (ps_ret (pe_ix ix_list (pv 2) pe_int (fun _ _ => rfl))))))), ?_⟩
    refine ⟨_, rfl, q, _, rfl, .inl (SqL.of hq), fun l nl => ?_⟩
    have lb : l ≠ b := fun e => by
      obtain ⟨r, s', t, z⟩ := bx
      rw [e, z] at nl; cases nl
    have bxl : Bx (upd H l (.lst (xs.map V.str))) b := by
      obtain ⟨r, s', t, z⟩ := bx
      exact ⟨r, s', t, by rw [upd_ne (Ne.symm lb)]; exact z⟩
    refine ⟨_, rfl, b, 3, rfl, bxl, by decide, by decide, fun bent H1 b0 b1 bt1 bx1 => ?_⟩
    have bt01 : But b H H1 := fun a o ne e => bt1 a o ne (by rw [upd_ne (ne_of_none e nl)]; exact e)
    have hl1 : H1 l = some (.lst (xs.map V.str)) := bt1 _ _ lb upd_same
    have hq1 : H1 q = some (.lst (xs.map V.str)) := bt01 _ _ qb hq
    refine ⟨_, rfl, q, _, rfl, .inl (SqL.of hq1), _, _, rfl, rfl, _, rfl, ?_, ?_, ?_⟩
    · rw [List.length_map]; omega
    · rw [List.length_map]; omega
    rw [List.length_map]
    refine for_range (lo := 0) (n := ((xs.length : Int) - 1).toNat) (fun i σ H' => ∃ (ps : List (V × Tr)) (v v' v'' : Option V), σ = [some (.ref b), some (.ref q), some (.ref l), some (.int bent), v, v', v''] ∧ H' l = some (.lst (ps.map (·.1))) ∧ ps.length + i = xs.length ∧ (lvs ps).Perm xs ∧ (∀ p ∈ ps, TrV H' p.1 p.2) ∧ But b H H' ∧ Bx H' b)
      ⟨xs.map fun x => (.str x, .leaf x), none, none, none, rfl, ?_, ?_, ?_, ?_, bt01, bx1⟩ ?_ ?_
    · rw [hl1, List.map_map]; rfl
    · rw [List.length_map]; rfl
    · have : lvs (xs.map fun x => (V.str x, Tr.leaf x)) = xs := by
        unfold lvs
        rw [List.flatMap_map]
        show xs.flatMap (fun x => [x]) = xs
        exact List.flatMap_singleton' xs
      rw [this]
    · intro p hp
      obtain ⟨x, _, rfl⟩ := List.mem_map.mp hp
      exact .leaf x
    · rintro i σ H2 hi ⟨ps, v, v', v'', rfl, hl2, hlen, hpm, htr, bt2, bx2⟩
      have h2 : 2 ≤ ps.length := by omega
      -- the first part
      refine ⟨fun σ' H' => ∃ (p : V × Tr) (ps' : List (V × Tr)), σ' = [some (.ref b), some (.ref q), some (.ref l), some (.int bent), some (V.int (0 + (i : Int))), some p.1, v''] ∧ (p :: ps').Perm ps ∧ ps'.length + 1 = ps.length ∧ H' l = some (.lst (ps'.map (·.1))) ∧ Tups H2 H' ∧ But b H H' ∧ Bx H' b, ?_, ?_⟩
      · refine ⟨_, rfl, rfl, _, rfl, ite2 (fun c => ?_) (fun c => ?_)⟩
        · obtain ⟨p, ps', pm, _, _, len, e1, e2⟩ := pop_one (ps := ps) (i := ps.length - 1) (by omega)
          refine ⟨_, rfl, .inl ⟨rfl, _, SqL.of hl2⟩, l, _, p.1, rfl, rfl, hl2, by rw [List.length_map]; exact e1, ?_⟩
          refine ⟨p, ps', rfl, pm, len, ?_, Tups.lst hl2, bt2.own ?_, ?_⟩
          · rw [upd_same, ← e2]
            have := List.eraseIdx_length_sub_one (l := ps.map (·.1))
            rw [List.length_map] at this
            rw [this]
          · exact nl
          · obtain ⟨r, s', t, z⟩ := bx2
            exact ⟨r, s', t, by rw [upd_ne (Ne.symm lb)]; exact z⟩
        · refine ⟨_, rfl, .inl ⟨rfl, _, SqL.of hl2⟩, _, rfl, _, rfl, l, _, rfl, .inl (SqL.of hl2), b, (ps.length : Int), (by rw [List.length_map]; rfl), bx2, by omega, by omega, fun d H3 d0 d1 bt3 bx3 => ?_⟩
          have hl3 := bt3 _ _ lb hl2
          obtain ⟨p, ps', pm, _, _, len, e1, e2⟩ := pop_one (ps := ps) (i := d.toNat) (by omega)
          refine ⟨l, _, d, d.toNat, p.1, rfl, rfl, hl3, by omega, by omega, by rw [List.length_map]; exact seqIx d0 d1, e1, ?_⟩
          refine ⟨p, ps', rfl, pm, len, by rw [upd_same, e2], (Tups.but bt3 bx2).trans (Tups.lst hl3), (bt2.trans bt3).own nl, ?_⟩
          obtain ⟨r, s', t, z⟩ := bx3
          exact ⟨r, s', t, by rw [upd_ne (Ne.symm lb)]; exact z⟩
      · rintro σ3 H3 ⟨p, ps', rfl, pm, len, hl3, tp3, bt3, bx3⟩
        -- the second part
        refine ⟨_, rfl, .inl ⟨rfl, _, SqL.of hl3⟩, _, rfl, _, rfl, l, _, rfl, .inl (SqL.of hl3), b, (ps'.length : Int), (by rw [List.length_map]; rfl), bx3, by omega, by omega, fun d H4 d0 d1 bt4 bx4 => ?_⟩
        have hl4 := bt4 _ _ lb hl3
        obtain ⟨p2, qs, pm2, _, _, len2, e1, e2⟩ := pop_one (ps := ps') (i := d.toNat) (by omega)
        refine ⟨l, _, d, d.toNat, p2.1, rfl, rfl, hl4, by omega, by omega, by rw [List.length_map]; exact seqIx d0 d1, e1, ?_⟩
        have bx5 : Bx (upd H4 l (.lst ((ps'.map (·.1)).eraseIdx d.toNat))) b := by
          obtain ⟨r, s', t, z⟩ := bx4
          exact ⟨r, s', t, by rw [upd_ne (Ne.symm lb)]; exact z⟩
        refine ⟨_, rfl, b, 2, rfl, bx5, by decide, by decide, fun e H6 e0 e1' bt6 bx6 => ⟨rfl, _, rfl, ?_⟩⟩
        have hl6 : H6 l = some (.lst (qs.map (·.1))) := bt6 _ _ lb (by rw [upd_same, e2])
        have tp6 : Tups H2 H6 := (((tp3.trans (Tups.but bt4 bx3)).trans (Tups.lst hl4)).trans (Tups.but bt6 bx5))
        have bt06 : But b H H6 := ((bt3.trans bt4).own nl).trans bt6
        have pall : (p :: p2 :: qs).Perm ps := (pm2.cons p).trans pm
        have tp : TrV H6 p.1 p.2 := (htr p (pall.subset List.mem_cons_self)).mono tp6
        have tp2 : TrV H6 p2.1 p2.2 := (htr p2 (pall.subset (List.mem_cons_of_mem _ List.mem_cons_self))).mono tp6
        have tq : ∀ z ∈ qs, TrV H6 z.1 z.2 := fun z hz => (htr z (pall.subset (List.mem_cons_of_mem _ (List.mem_cons_of_mem _ hz)))).mono tp6
        have fin : ∀ (x y : V × Tr), (x :: y :: qs).Perm ps → TrV H6 x.1 x.2 → TrV H6 y.1 y.2 → ∀ t, H6 t = none → ∃ (ps : List (V × Tr)) (v v' v'' : Option V), [some (.ref b), some (.ref q), some (.ref l), some (.int bent), some (V.int (0 + (i : Int))), some p.1, some p2.1] = [some (.ref b), some (.ref q), some (.ref l), some (.int bent), v, v', v''] ∧
            (upd (upd H6 t (.tup [x.1, y.1])) l (.lst (qs.map (·.1) ++ [.ref t]))) l = some (.lst (ps.map (·.1))) ∧ ps.length + (i + 1) = xs.length ∧ (lvs ps).Perm xs ∧ (∀ p ∈ ps, TrV (upd (upd H6 t (.tup [x.1, y.1])) l (.lst (qs.map (·.1) ++ [.ref t]))) p.1 p.2) ∧
            But b H (upd (upd H6 t (.tup [x.1, y.1])) l (.lst (qs.map (·.1) ++ [.ref t]))) ∧ Bx (upd (upd H6 t (.tup [x.1, y.1])) l (.lst (qs.map (·.1) ++ [.ref t]))) b := fun x y pxy tx ty t nt => by
          have lt : l ≠ t := ne_of_none hl6 nt
          have hl7 : (upd H6 t (.tup [x.1, y.1])) l = some (.lst (qs.map (·.1))) := by rw [upd_ne lt]; exact hl6
          have tps : Tups H6 (upd (upd H6 t (.tup [x.1, y.1])) l (.lst (qs.map (·.1) ++ [.ref t]))) := (Tups.new nt).trans (Tups.lst hl7)
          refine ⟨qs ++ [(.ref t, .fork x.2 y.2)], _, _, _, rfl, by rw [upd_same, List.map_append]; rfl, by rw [List.length_append]; simp only [List.length_cons, List.length_nil]; omega, ?_, ?_, (bt06.new nt).own nl, ?_⟩
          · refine List.Perm.trans ?_ hpm
            refine List.Perm.trans ?_ (lvs_perm pxy)
            unfold lvs
            simp only [List.flatMap_append, List.flatMap_cons, List.flatMap_nil, List.append_nil, Tr.leaves]
            have e := List.perm_append_comm (l₁ := qs.flatMap fun p => p.2.leaves) (l₂ := x.2.leaves ++ y.2.leaves)
            simpa [List.append_assoc] using e
          · intro z hz
            rcases List.mem_append.mp hz with hz | hz
            · exact (tq z hz).mono tps
            · have : z = (.ref t, .fork x.2 y.2) := by simpa using hz
              subst this
              refine .fork (u := x.1) (v := y.1) ?_ (tx.mono tps) (ty.mono tps)
              rw [upd_ne (Ne.symm lt), upd_same]
          · obtain ⟨r, s', t', z⟩ := bx6
            refine ⟨r, s', t', ?_⟩
            rw [upd_ne (Ne.symm lb), upd_ne (ne_of_none z nt)]; exact z
        refine ite2 (fun c => ?_) (fun c => ?_)
        · refine ⟨_, rfl, .inl ⟨rfl, _, SqL.of hl6⟩, _, rfl, _, rfl, (by show 2 ≤ sizeLine; decide), fun t nt => ?_⟩
          refine ⟨l, _, _, rfl, rfl, (by rw [upd_ne (ne_of_none hl6 nt)]; exact hl6), small_line' (by rw [List.length_map]; omega), ?_⟩
          exact fin p p2 pall tp tp2 t nt
        · refine ⟨_, rfl, .inl ⟨rfl, _, SqL.of hl6⟩, _, rfl, _, rfl, (by show 2 ≤ sizeLine; decide), fun t nt => ?_⟩
          refine ⟨l, _, _, rfl, rfl, (by rw [upd_ne (ne_of_none hl6 nt)]; exact hl6), small_line' (by rw [List.length_map]; omega), ?_⟩
          exact fin p2 p ((List.Perm.swap _ _ _).trans pall) tp2 tp t nt
    · rintro σ H2 ⟨ps, v, v', v'', rfl, hl2, hlen, hpm, htr, bt2, bx2⟩
      have h1 : ps.length = 1 := by omega
      obtain ⟨p, hp⟩ := List.length_eq_one_iff.mp h1
      subst hp
      refine ⟨_, rfl, l, _, _, p.1, rfl, rfl, SqL.of hl2, atI_nat (j := 0) rfl, ?_⟩
      refine k p.2 p.1 H2 ?_ (htr p List.mem_cons_self) bt2 bx2
      have : lvs [p] = p.2.leaves := by simp [lvs]
      rw [← this]; exact hpm
end
end Fk

set_option Elab.async false
set_option linter.all false
set_option maxRecDepth 100000
set_option maxHeartbeats 4000000
namespace Fk
open PySem PySem.Spec PyProof.Rows L2
/-! ### ways as texts -/
def bitC (b : Bool) : Nat := if b then 49 else 48
def enc (w : List Bool) : Str := ⟨(w.map bitC).toArray⟩
theorem bitC_inj {a b : Bool} (h : bitC a = bitC b) : a = b := by cases a <;> cases b <;> first | rfl | cases h
theorem enc_list (w : List Bool) : (enc w).cps.toList = w.map bitC := rfl
theorem enc_inj {a b : List Bool} (h : enc a = enc b) : a = b := by
  have e : a.map bitC = b.map bitC := by
    have := congrArg (fun z : Str => z.cps.toList) h
    exact this
  exact (List.map_inj_right (f := bitC) (fun _ _ => bitC_inj)).mp e
theorem enc_len (w : List Bool) : (enc w).length = w.length := by rw [str_len, enc_list, List.length_map]
theorem enc_nil : enc [] = ("" : Str) := by decide +kernel
theorem enc_zero : enc [false] = ("0" : Str) := by decide +kernel
theorem enc_one : enc [true] = ("1" : Str) := by decide +kernel
theorem enc_cat (a b : List Bool) : enc a ++ enc b = enc (a ++ b) := by
  refine str_ext ?_
  rw [str_cat, enc_list, enc_list, enc_list, List.map_append]
theorem enc_snoc0 (w : List Bool) : enc w ++ ("0" : Str) = enc (w ++ [false]) := by rw [← enc_zero, enc_cat]
theorem enc_snoc1 (w : List Bool) : enc w ++ ("1" : Str) = enc (w ++ [true]) := by rw [← enc_one, enc_cat]
theorem enc_take (w : List Bool) (k : Nat) : cutS (enc w) none (some (k : Int)) = enc (w.take k) := by
  refine str_ext ?_
  unfold cutS
  rw [HT.sIx_none, HT.sIx_nat, enc_len]
  show ((w.map bitC).drop 0).take (min k w.length - 0) = _
  rw [enc_list, List.drop_zero, Nat.sub_zero, ← List.map_take]
  congr 1
  by_cases h : k ≤ w.length
  · rw [Nat.min_eq_left h]
  · rw [Nat.min_eq_right (by omega), List.take_of_length_le (Nat.le_refl _), List.take_of_length_le (by omega)]
theorem enc_at {w : List Bool} {k : Nat} (h : k < w.length) : atI (enc w).cps.toList (k : Int) = some (bitC (w.getD k false)) := by
  refine atI_nat ?_
  rw [enc_list, List.getElem?_map, List.getD_eq_getElem?_getD, List.getElem?_eq_getElem h]; rfl
theorem sign_enc (b : Bool) : (⟨#[bitC b]⟩ : Str) = enc [b] := rfl
theorem bit_text (b : Bool) : (toString (bitI b) : String) = (if b then "1" else "0") := by cases b <;> decide +kernel
/-- str of a parity -/
theorem enc_bit (b : Bool) : ((toString (bitI b) : String) : Str) = enc [b] := by
  rw [bit_text]
  cases b
  · exact enc_zero.symm
  · exact enc_one.symm

/-! ### dicts by text keys -/
abbrev kS (x : Str) : Key := Sum.inr x
theorem valV_none {kvs : List (Key × V)} {k : Key} (h : k ∉ kvs.map (·.1)) : valV kvs k = none := by
  unfold valV
  rw [List.find?_eq_none.mpr]
  · rfl
  · intro p hp e
    exact h (List.mem_map.mpr ⟨p, hp, of_decide_eq_true e⟩)
theorem valV_mem : ∀ {kvs : List (Key × V)} {k : Key} {v : V}, (kvs.map (·.1)).Nodup → (k, v) ∈ kvs → valV kvs k = some v
  | [], _, _, _, h => nomatch h
  | (a, b) :: r, k, v, nd, h => by
    rw [List.map_cons, List.nodup_cons] at nd
    rcases List.mem_cons.mp h with e | h'
    · cases e; exact valV_pos rfl
    · have hne : ¬ a = k := fun e => nd.1 (List.mem_map.mpr ⟨(k, v), h', e.symm⟩)
      rw [valV_neg hne]
      exact valV_mem nd.2 h'
theorem put_end {kvs : List (Key × V)} {k : Key} (v : V) (h : k ∉ kvs.map (·.1)) : putK kvs k v = kvs ++ [(k, v)] := putK_new v (valV_none h)

/-! ### the dict of the ways -/
def wayK (l : List (Str × List Bool)) : List (Key × V) := l.map fun p => (kS p.1, .str (enc p.2))
theorem wayK_keys (l : List (Str × List Bool)) : (wayK l).map (·.1) = (l.map (·.1)).map kS := by
  unfold wayK
  rw [List.map_map, List.map_map]; rfl
theorem kS_nodup {l : List Str} (h : l.Nodup) : (l.map kS).Nodup := List.pairwise_map.mpr (h.imp fun ne e => ne (Sum.inr.inj e))
theorem way_val {t : Tr} (nd : t.leaves.Nodup) {x : Str} (hx : x ∈ t.leaves) : valV (wayK (t.ways [])) (kS x) = some (.str (enc (t.way x))) := by
  refine valV_mem ?_ (List.mem_map.mpr ⟨(x, t.way x), t.way_mem nd hx, rfl⟩)
  rw [wayK_keys, t.ways_names]
  exact kS_nodup nd

/-! ### a promise that is never asked: of any def that stands -/
section
variable {P : Program} {w : World} {K : PySem.W.Frag} {mg : Str → Option Value} {base : Heap}
theorem cal_no {x : Str} {st : Stmt} {f : Addr} {fd : FuncData} {ps : List Str} {sp : Sp} (F : Std K x x st f fd) (hm : mg x = some (.ref f)) (bd : BindH x x st ps) (no : ∀ vs H Q E, ¬ sp vs H Q E) : Cal P w K mg base 0 x sp :=
  ⟨f, fd, ps, ⟨fun vs H Q E h => (no vs H Q E h).elim, fun _ _ _ _ _ _ _ _ _ _ _ _ _ h => (no _ _ _ _ h).elim⟩, hm, F.kp, FunD.bindsN F bd⟩
end
/-! ### isinstance's answers -/
section
variable {K : PySem.W.Frag}
theorem kSS : PySem.W.kitOne K (.type "str") (.type "str") = some true := kit_ty (by decide +kernel)
theorem kTS : PySem.W.kitOne K (.type "tuple") (.type "str") = some false := kit_ty (by decide +kernel)
theorem kST : PySem.W.kitOne K (.type "str") (.type "tuple") = some false := kit_ty (by decide +kernel)
theorem kTT : PySem.W.kitOne K (.type "tuple") (.type "tuple") = some true := kit_ty (by decide +kernel)
theorem kLL : PySem.W.kitOne K (.type "list") (.type "list") = some true := kit_ty (by decide +kernel)
theorem kBB : PySem.W.kitOne K (.type "bool") (.type "bool") = some true := kit_ty (by decide +kernel)
theorem kIB : PySem.W.kitOne K (.type "int") (.type "bool") = some false := kit_ty (by decide +kernel)
theorem kII : PySem.W.kitOne K (.type "int") (.type "int") = some true := kit_ty (by decide +kernel)
end
end Fk

set_option Elab.async false
set_option linter.all false
set_option maxRecDepth 100000
set_option maxHeartbeats 4000000
namespace Fk
open PySem PySem.Spec PyProof.Rows L2
section
variable {P : Program} {w : World} {K : PySem.W.Frag} {mg : Str → Option Value} {base : Heap} {f : Addr} {fd : FuncData}
/-! ### _law_ways -/
def spWays (h : Nat) : Sp := fun vs H Q _ => ∃ (d : Addr) (v : V) (t : Tr) (w : List Bool) (kvs : List (Key × V)), vs = [v, .str (enc w), .ref d] ∧ TrV H v t ∧ t.height < h ∧ w.length + h ≤ 40 ∧ H d = some (.dK kvs) ∧ kvs.length + t.leaves.length ≤ 100 ∧ (kvs.map (·.1) ++ t.leaves.map kS).Nodup ∧
  Q (.ref d) (upd H d (.dK (kvs ++ wayK (t.ways w))))
theorem sc__law_ways : FnScope ["_law_tree_here", "_law_way", "_law_ways_here"] ["_law_tree_here", "_law_way", "_law_ways_here"] (defScope (top 43)) := ⟨rfl, rfl, rfl, by decide +kernel, rfl, by decide +kernel, by decide +kernel⟩
theorem ok_ways (T : Free mg) (F : Std K "_law_ways" "_law_ways" (top 43) f fd) (hm : mg "_law_ways" = some (.ref f)) : ∀ h : Nat, Cal P w K mg base h "_law_ways" (spWays h)
  | 0 => cal_no F hm (ps := ["_law_tree_here", "_law_way", "_law_ways_here"]) (fun _ _ _ _ _ _ us hl => match us, hl with | [_, _, _], _ => rfl) fun vs H Q E h => by
    obtain ⟨_, _, _, _, _, _, _, z, _⟩ := h
    exact absurd z (Nat.not_lt_zero _)
  | h + 1 => by
    have C__law_ways : Cal P w K mg base h "_law_ways" (spWays h) := ok_ways T F hm h
    refine cal_of F hm (fun _ _ _ _ _ _ us hl => match us, hl with | [_, _, _], _ => rfl) sc__law_ways (fun vs H Q E h => ?_) (fun cdv A outer s H vs Q E hr h => ?_)
    · obtain ⟨_, _, _, _, _, rfl, _⟩ := h; rfl
    · obtain ⟨d, v, t, wy, kvs, rfl, tv, ht, hw, hd, hk, nd, k⟩ := h
      have hu := hu_of hr
      refine ⟨_, (pss_cons (ps_if (pt_val (pe_callB call_isi (by rfl) T.isi (by decide +kernel) (pa_cons (pv 0) (pa_cons (pe_bltn (v := .ty "str") (u := .type "str") (by rfl) T.str (by decide +kernel) rfl) pa_nil)))) (pss_one (ps_dput hu (pv 2) (pv 0) (pv 1) rfl)) (pss_cons (ps_expr (pe_f C__law_ways hr (pa_cons (pe_ix ix_tup (pv 0) pe_int (fun _ _ => rfl)) (pa_cons (pe_op op_add_str (pv 1) pe_str) (pa_cons (pv 2) pa_nil)))))
        (pss_one (ps_expr (pe_f C__law_ways hr (pa_cons (pe_ix ix_tup (pv 0) pe_int (fun _ _ => rfl)) (pa_cons (pe_op op_add_str (pv 1) pe_str) (pa_cons (pv 2) pa_nil))))))))
        (pss_one (ps_ret (pv 2)))), ?_⟩
      cases tv with
      | leaf x =>
        refine ⟨_, rfl, _, _, _, _, _, rfl, .ty _, .base (.str x), kSS, _, rfl, iteT ?_⟩
        refine ⟨_, rfl, _, rfl, _, rfl, d, _, rfl, DPut.k (k := kS x) hd (small_line' (by omega)), ?_⟩
        have ni : kS x ∉ kvs.map (·.1) := fun m => (List.nodup_append.mp nd).2.2 _ m _ (by simp [Tr.leaves]) rfl
        rw [put_end _ ni]
        exact ⟨_, rfl, k⟩
      | @fork a u v l r e tl tr =>
        have he : a ≠ d := ne_of e hd (by intro z; cases z)
        have hl : l.height < h := by have := ht; simp only [Tr.height] at this; omega
        have hr' : r.height < h := by have := ht; simp only [Tr.height] at this; omega
        have n2 : kvs.length + (l.leaves.length + r.leaves.length) ≤ 100 := by have := hk; simp only [Tr.leaves, List.length_append] at this; exact this
        have nd2 : (kvs.map (·.1) ++ (l.leaves.map kS ++ r.leaves.map kS)).Nodup := by have := nd; simp only [Tr.leaves, List.map_append] at this; exact this
        refine ⟨_, rfl, _, _, _, _, _, rfl, .ty _, .base (.tup e), kTS, _, rfl, iteF ?_⟩
        have tp : ∀ kv', Tups H (upd H d (.dK kv')) := fun kv' b xs e' => by rw [upd_ne (ne_of e' hd (by intro z; cases z))]; exact e'
        refine ⟨_, rfl, a, _, _, u, rfl, rfl, SqT.of e, atI_nat (j := 0) rfl, _, rfl, _, _, rfl, rfl, small_line (n := (enc wy).length + 1) (by rw [enc_len]; omega), _, rfl, ?_⟩
        refine ⟨d, u, l, wy ++ [false], kvs, by rw [enc_snoc0]; rfl, tl, hl, by rw [List.length_append, List.length_singleton]; omega, hd, by omega, ?_, ?_⟩
        · rw [← List.append_assoc] at nd2
          exact (List.nodup_append.mp nd2).1
        refine ⟨_, rfl, a, _, _, v, rfl, rfl, SqT.of (by rw [upd_ne he]; exact e), atI_nat (j := 1) rfl, _, rfl, _, _, rfl, rfl, small_line (n := (enc wy).length + 1) (by rw [enc_len]; omega), _, rfl, ?_⟩
        have kn : (wayK (l.ways (wy ++ [false]))).map (·.1) = l.leaves.map kS := by rw [wayK_keys, l.ways_names]
        have ln : (wayK (l.ways (wy ++ [false]))).length = l.leaves.length := by rw [← List.length_map (f := (·.1)), kn, List.length_map]
        refine ⟨d, v, r, wy ++ [true], _, by rw [enc_snoc1]; rfl, tr.mono (tp _), hr', by rw [List.length_append, List.length_singleton]; omega, upd_same, by rw [List.length_append, ln]; omega, ?_, ?_⟩
        · rw [List.map_append, kn, List.append_assoc]; exact nd2
        refine ⟨_, rfl, ?_⟩
        rw [upd_upd, List.append_assoc]
        have ew : wayK ((Tr.fork l r).ways wy) = wayK (l.ways (wy ++ [false])) ++ wayK (r.ways (wy ++ [true])) := List.map_append
        rw [← ew]
        exact k
end
end Fk

set_option Elab.async false
set_option linter.all false
set_option maxRecDepth 100000
set_option maxHeartbeats 4000000
namespace Fk
open PySem PySem.Spec PyProof.Rows L2
/-! ### the dict of the flags, while it is filled: cs the cells seen so far, ks its keys and the lists' addresses -/
def rowK (ks : List (List Bool × Addr)) : List (Key × V) := ks.map fun p => (kS (enc p.1), .ref p.2)
def natV (l : List Nat) : List V := l.map fun (i : Nat) => V.int (i : Int)
theorem natV_snoc (l : List Nat) (i : Nat) : natV (l ++ [i]) = natV l ++ [V.int (i : Int)] := List.map_append
structure FlInv (wf : Str → List Bool) (Av : Addr → Prop) (H : Hp) (fl : Addr) (cs : List (Str × Nat)) (ks : List (List Bool × Addr)) : Prop where
  dict : H fl = some (.dK (rowK ks))
  k1 : (ks.map (·.1)).Nodup
  k2 : (ks.map (·.2)).Nodup
  row : ∀ p ∈ ks, H p.2 = some (.lst (natV (idx (isAt wf p.1) cs 0)))
  has : ∀ c ∈ cs, (wf c.1).take c.2 ∈ ks.map (·.1)
  av : ∀ p ∈ ks, Av p.2
section
variable {wf : Str → List Bool} {Av : Addr → Prop} {H H' : Hp} {fl : Addr} {cs : List (Str × Nat)} {ks : List (List Bool × Addr)}
theorem rowK_nodup (h : (ks.map (·.1)).Nodup) : ((rowK ks).map (·.1)).Nodup := by
  unfold rowK
  rw [List.map_map]
  have e : ((fun x : Key × V => x.1) ∘ fun p : List Bool × Addr => (kS (enc p.1), V.ref p.2)) = fun p => kS (enc p.1) := rfl
  rw [e]
  refine List.pairwise_map.mpr ((List.pairwise_map.mp h).imp fun ne z => ne (enc_inj (Sum.inr.inj z)))
theorem FlInv.look (I : FlInv wf Av H fl cs ks) {p : List Bool × Addr} (hp : p ∈ ks) : valV (rowK ks) (kS (enc p.1)) = some (.ref p.2) :=
  valV_mem (rowK_nodup I.k1) (List.mem_map.mpr ⟨p, hp, rfl⟩)
theorem row_none {F : List Bool} (h : F ∉ ks.map (·.1)) : kS (enc F) ∉ (rowK ks).map (·.1) := fun m => by
  unfold rowK at m
  rw [List.map_map] at m
  obtain ⟨p, hp, e⟩ := List.mem_map.mp m
  have : p.1 = F := enc_inj (Sum.inr.inj e)
  exact h (List.mem_map.mpr ⟨p, hp, this⟩)
theorem FlInv.ne (I : FlInv wf Av H fl cs ks) {p : List Bool × Addr} (hp : p ∈ ks) : p.2 ≠ fl := ne_of (I.row p hp) I.dict (by intro z; cases z)
/-- what else changes does not matter -/
theorem FlInv.keep (I : FlInv wf Av H fl cs ks) (k1 : H' fl = H fl) (k2 : ∀ p ∈ ks, H' p.2 = H p.2) : FlInv wf Av H' fl cs ks :=
  ⟨k1.trans I.dict, I.k1, I.k2, fun p hp => (k2 p hp).trans (I.row p hp), I.has, I.av⟩
theorem FlInv.new (I : FlInv wf Av H fl cs ks) {q : Addr} {o : HO} (n : H q = none) : FlInv wf Av (upd H q o) fl cs ks :=
  I.keep (upd_ne (ne_of_none I.dict n)) fun p hp => upd_ne (ne_of_none (I.row p hp) n)
/-- a new key with an empty list -/
theorem FlInv.add (I : FlInv wf Av H fl cs ks) {F : List Bool} {q : Addr} (hF : F ∉ ks.map (·.1)) (hq : H q = some (.lst [])) (hn : ∀ p ∈ ks, p.2 ≠ q) (a : Av q) : FlInv wf Av (upd H fl (.dK (rowK ks ++ [(kS (enc F), .ref q)]))) fl cs (ks ++ [(F, q)]) := by
  have qf : q ≠ fl := ne_of hq I.dict (by intro z; cases z)
  refine ⟨by rw [upd_same]; unfold rowK; rw [List.map_append]; rfl, ?_, ?_, fun p hp => ?_, fun c hc => ?_, fun p hp => ?_⟩
  · rw [List.map_append]
    exact nd_snoc I.k1 hF
  · rw [List.map_append]
    exact nd_snoc I.k2 fun m => by
      obtain ⟨p, hp, e⟩ := List.mem_map.mp m
      exact hn p hp e
  · rcases List.mem_append.mp hp with h | h
    · rw [upd_ne (I.ne h)]; exact I.row p h
    · have : p = (F, q) := by simpa using h
      subst this
      rw [upd_ne qf, hq, idx_none]
      · rfl
      · intro c hc
        refine decide_eq_false fun e => hF ?_
        have e' : (wf c.1).take c.2 = F := e
        rw [← e']; exact I.has c hc
  · rw [List.map_append]; exact List.mem_append_left _ (I.has c hc)
  · rcases List.mem_append.mp hp with h | h
    · exact I.av p h
    · have : p = (F, q) := by simpa using h
      subst this; exact a
/-- a cell goes to its fork's list -/
theorem FlInv.push (I : FlInv wf Av H fl cs ks) {p : List Bool × Addr} (hp : p ∈ ks) {c : Str × Nat} (hc : (wf c.1).take c.2 = p.1) :
    FlInv wf Av (upd H p.2 (.lst (natV (idx (isAt wf p.1) cs 0) ++ [.int (cs.length : Nat)]))) fl (cs ++ [c]) ks := by
  refine ⟨by rw [upd_ne (Ne.symm (I.ne hp))]; exact I.dict, I.k1, I.k2, fun p' hp' => ?_, fun c' hc' => ?_, I.av⟩
  · rw [idx_append]
    by_cases e : p'.2 = p.2
    · have e2 : p' = p := by
        have h2 := I.k2
        obtain ⟨i, hi⟩ := List.mem_iff_getElem?.mp hp
        obtain ⟨j, hj⟩ := List.mem_iff_getElem?.mp hp'
        have h3 := nd_ix h2 (show (ks.map (·.2))[j]? = some p.2 by rw [List.getElem?_map, hj]; exact congrArg some e) (show (ks.map (·.2))[i]? = some p.2 by rw [List.getElem?_map, hi]; rfl)
        rw [h3, hi] at hj
        exact (Option.some.inj hj).symm
      subst e2
      have : isAt wf p'.1 c = true := decide_eq_true hc
      have e3 : idx (isAt wf p'.1) [c] (0 + cs.length) = [cs.length] := by simp [idx, this]
      rw [upd_same, e3, natV_snoc]
    · have e1 : p'.1 ≠ p.1 := fun z => e (by
        obtain ⟨i, hi⟩ := List.mem_iff_getElem?.mp hp
        obtain ⟨j, hj⟩ := List.mem_iff_getElem?.mp hp'
        have h3 := nd_ix I.k1 (show (ks.map (·.1))[j]? = some p.1 by rw [List.getElem?_map, hj]; exact congrArg some z) (show (ks.map (·.1))[i]? = some p.1 by rw [List.getElem?_map, hi]; rfl)
        rw [h3, hi] at hj
        rw [← Option.some.inj hj])
      have : isAt wf p'.1 c = false := decide_eq_false fun z => e1 (z.symm.trans hc)
      have e3 : idx (isAt wf p'.1) [c] (0 + cs.length) = [] := by simp [idx, this]
      rw [upd_ne e, I.row p' hp', e3, List.append_nil]
  · rcases List.mem_append.mp hc' with h | h
    · exact I.has c' h
    · have : c' = c := by simpa using h
      subst this
      rw [hc]
      exact List.mem_map.mpr ⟨p, hp, rfl⟩
end
/-! ### what a reader of the flags sees -/
/-- the dict at fl tells each fork's flags -/
def FlagsAt (t : Tr) (ns : List Str) (H : Hp) (fl : Addr) : Prop := ∃ kvs, H fl = some (.dK kvs) ∧ (∀ F, F ∈ t.forks [] → ∃ p, valV kvs (kS (enc F)) = some (.ref p) ∧ H p = some (.lst (natV (flags t.way ns F)))) ∧ ∀ F, F ∉ t.forks [] → valV kvs (kS (enc F)) = none
theorem FlagsAt.same {t : Tr} {ns : List Str} {H H' : Hp} {fl : Addr} (h : FlagsAt t ns H fl) (k : Same H H') : FlagsAt t ns H' fl := by
  obtain ⟨kvs, e, a, b⟩ := h
  refine ⟨kvs, k _ _ e, fun F hF => ?_, b⟩
  obtain ⟨p, e1, e2⟩ := a F hF
  exact ⟨p, e1, k _ _ e2⟩
theorem FlagsAt.of {t : Tr} {ns : List Str} {Av : Addr → Prop} {H : Hp} {fl : Addr} {ks : List (List Bool × Addr)} (I : FlInv t.way Av H fl (cellsOf t.way ns) ks) (hk : ∀ F, F ∈ ks.map (·.1) ↔ F ∈ t.forks []) : FlagsAt t ns H fl := by
  refine ⟨_, I.dict, fun F hF => ?_, fun F hF => valV_none (row_none fun m => hF ((hk F).mp m))⟩
  obtain ⟨p, hp, e⟩ := List.mem_map.mp ((hk F).mpr hF)
  subst e
  exact ⟨p.2, I.look hp, I.row p hp⟩
/-- forks and ways -/
theorem fork_of_cell {t : Tr} (nd : t.leaves.Nodup) {x : Str} {l : Nat} (hx : x ∈ t.leaves) (hl : l < (t.way x).length) : (t.way x).take l ∈ t.forks [] := by
  obtain ⟨a, b, e, _⟩ := t.sub_take (t.way_sub nd hx) hl
  exact (t.mem_forks [] _).mpr ⟨_, rfl, a, b, e⟩
theorem Tr.some_leaf : ∀ t : Tr, ∃ v x, t.sub v = some (.leaf x)
  | .leaf x => ⟨[], x, rfl⟩
  | .fork l r => by
    obtain ⟨v, x, e⟩ := l.some_leaf
    exact ⟨false :: v, x, e⟩
theorem cell_of_fork {t : Tr} (nd : t.leaves.Nodup) {F : List Bool} (hF : F ∈ t.forks []) : ∃ x ∈ t.leaves, F.length < (t.way x).length ∧ (t.way x).take F.length = F := by
  obtain ⟨v, ev, l, r, e⟩ := (t.mem_forks [] F).mp hF
  rw [List.nil_append] at ev
  subst ev
  obtain ⟨u, x, eu⟩ := l.some_leaf
  have es : t.sub (F ++ false :: u) = some (.leaf x) := by
    rw [t.sub_append, e]; exact eu
  have hx : x ∈ t.leaves := t.sub_leaves _ _ es x (by simp [Tr.leaves])
  refine ⟨x, hx, ?_, ?_⟩
  · rw [t.way_eq nd es, List.length_append, List.length_cons]; omega
  · rw [t.way_eq nd es, List.take_left]
theorem cells_le (wf : Str → List Bool) (m : Nat) : ∀ ns : List Str, (∀ x ∈ ns, (wf x).length ≤ m) → (cellsOf wf ns).length ≤ ns.length * m
  | [], _ => by simp [cellsOf]
  | x :: r, h => by
    have ih := cells_le wf m r fun y hy => h y (List.mem_cons_of_mem _ hy)
    have h1 := h x List.mem_cons_self
    show (cellsOne wf x ++ cellsOf wf r).length ≤ _
    rw [List.length_append, cellsOne_len, List.length_cons, Nat.add_mul]
    omega
theorem cells_succ (wf : Str → List Bool) (ns : List Str) (j : Nat) (x : Str) (h : ns[j]? = some x) : cellsOf wf (ns.take (j + 1)) = cellsOf wf (ns.take j) ++ cellsOne wf x := by
  rw [List.take_add_one, h]
  simp [cellsOf]
theorem cellsOne_range (wf : Str → List Bool) (x : Str) : cellsOne wf x = (List.range (wf x).length).map fun l => (x, l) := rfl
end Fk

set_option Elab.async false
set_option linter.all false
set_option maxRecDepth 100000
set_option maxHeartbeats 4000000
namespace Fk
open PySem PySem.Spec PyProof.Rows L2
/-! ### the book -/
def leafK (t : Tr) (xs : List Str) : List (Key × V) := xs.map fun x => (kS (enc (t.way x)), .str x)
def LeavesAt (t : Tr) (H : Hp) (lf : Addr) : Prop := ∃ kvs, H lf = some (.dK kvs) ∧ (∀ w x, t.sub w = some (.leaf x) → valV kvs (kS (enc w)) = some (.str x)) ∧ ∀ w, (∀ x, t.sub w ≠ some (.leaf x)) → valV kvs (kS (enc w)) = none
theorem leafK_keys (t : Tr) (xs : List Str) : (leafK t xs).map (·.1) = xs.map fun x => kS (enc (t.way x)) := by
  unfold leafK
  rw [List.map_map]; rfl
theorem leafK_nodup {t : Tr} (nd : t.leaves.Nodup) {xs : List Str} (nx : xs.Nodup) (h : ∀ x ∈ xs, x ∈ t.leaves) : ((leafK t xs).map (·.1)).Nodup := by
  rw [leafK_keys]
  refine List.pairwise_map.mpr ?_
  refine List.Pairwise.imp_of_mem ?_ nx
  intro a b ha hb ne e
  exact ne (t.way_inj nd (h a ha) (h b hb) (enc_inj (Sum.inr.inj e)))
theorem LeavesAt.of {t : Tr} (nd : t.leaves.Nodup) {xs : List Str} (pm : xs.Perm t.leaves) {H : Hp} {lf : Addr} (e : H lf = some (.dK (leafK t xs))) : LeavesAt t H lf := by
  have mem : ∀ x, x ∈ xs ↔ x ∈ t.leaves := fun x => pm.mem_iff
  refine ⟨_, e, fun w x hw => ?_, fun w hw => ?_⟩
  · have hx : x ∈ t.leaves := t.sub_leaves w _ hw x (by simp [Tr.leaves])
    refine valV_mem (leafK_nodup nd (pm.nodup_iff.mpr nd) fun x hx => (mem x).mp hx) ?_
    refine List.mem_map.mpr ⟨x, (mem x).mpr hx, ?_⟩
    rw [t.way_eq nd hw]
  · refine valV_none fun m => ?_
    rw [leafK_keys] at m
    obtain ⟨x, hx, ex⟩ := List.mem_map.mp m
    have : t.way x = w := enc_inj (Sum.inr.inj ex)
    exact hw x (by rw [← this]; exact t.way_sub nd ((mem x).mp hx))
theorem LeavesAt.same {t : Tr} {H H' : Hp} {lf : Addr} (h : LeavesAt t H lf) (k : Same H H') : LeavesAt t H' lf := by
  obtain ⟨kvs, e, a⟩ := h
  exact ⟨kvs, k _ _ e, a⟩
def cellN (t : Tr) (ns : List Str) : Nat := (cellsOf t.way ns).length
structure BookAt (H : Hp) (bk : Addr) (t : Tr) (ns : List Str) : Prop where
  got : ∃ wd bd fl lf, H bk = some (.tup [.ref wd, .ref bd, .ref fl, .ref lf, .int (cellN t ns : Int)]) ∧ H wd = some (.dK (wayK (t.ways []))) ∧ FlagsAt t ns H fl ∧ LeavesAt t H lf
theorem BookAt.same {t : Tr} {ns : List Str} {H H' : Hp} {bk : Addr} (h : BookAt H bk t ns) (k : Same H H') : BookAt H' bk t ns := by
  obtain ⟨wd, bd, fl, lf, e1, e2, e3, e4⟩ := h.got
  exact ⟨wd, bd, fl, lf, k _ _ e1, k _ _ e2, e3.same k, e4.same k⟩
theorem putK_le {κ : Type} [DecidableEq κ] (kvs : List (κ × V)) (k : κ) (v : V) : (putK kvs k v).length ≤ kvs.length + 1 := by
  unfold putK
  split
  · rw [List.length_map]; omega
  · rw [List.length_append]; simp
theorem Tr.forks_len : ∀ (t : Tr) (w : List Bool), (t.forks w).length + 1 = t.leaves.length
  | .leaf _, _ => rfl
  | .fork l r, w => by
    have h1 := l.forks_len (w ++ [false])
    have h2 := r.forks_len (w ++ [true])
    simp only [Tr.forks, Tr.leaves, List.length_cons, List.length_append]
    omega
theorem ks_le {t : Tr} {ks : List (List Bool × Addr)} (n12 : t.leaves.length ≤ 12) (k1 : (ks.map (·.1)).Nodup) (kn : ∀ p ∈ ks, p.1 ∈ t.forks []) : ks.length ≤ 11 := by
  have h := nodup_le (ks.map (·.1)) (t.forks []) k1 fun F hF => by
    obtain ⟨p, hp, e⟩ := List.mem_map.mp hF
    rw [← e]; exact kn p hp
  rw [List.length_map] at h
  have := t.forks_len []
  omega
/-- the book's loop -/
structure BI (H H' : Hp) (t : Tr) (ys : List Str) (wd bd fl lf s : Addr) (cs : List (Str × Nat)) (done : List Str) (ks : List (List Bool × Addr)) : Prop where
  same : Same H H'
  w : H' wd = some (.dK (wayK (t.ways [])))
  b : ∃ kb, H' bd = some (.dK kb) ∧ kb.length ≤ done.length
  l : H' lf = some (.dK (leafK t done))
  srt : H' s = some (.lst (ys.map V.str))
  f : FlInv t.way (fun a => H a = none ∧ a ≠ s) H' fl cs ks
  kn : ∀ p ∈ ks, p.1 ∈ t.forks []
theorem BI.new {H H' : Hp} {t : Tr} {ys : List Str} {wd bd fl lf s : Addr} {cs : List (Str × Nat)} {done : List Str} {ks : List (List Bool × Addr)} (I : BI H H' t ys wd bd fl lf s cs done ks) {q : Addr} {o : HO} (n : H' q = none) : BI H (upd H' q o) t ys wd bd fl lf s cs done ks := by
  obtain ⟨kb, e, h⟩ := I.b
  exact ⟨sNew I.same n, by rw [upd_ne (ne_of_none I.w n)]; exact I.w, ⟨kb, by rw [upd_ne (ne_of_none e n)]; exact e, h⟩, by rw [upd_ne (ne_of_none I.l n)]; exact I.l, by rw [upd_ne (ne_of_none I.srt n)]; exact I.srt, I.f.new n, I.kn⟩
section
variable {P : Program} {w : World} {K : PySem.W.Frag} {mg : Str → Option Value} {base : Heap} {f : Addr} {fd : FuncData}
def spBook : Sp := fun vs H Q _ => ∃ (v : V) (t : Tr), vs = [v] ∧ TrV H v t ∧ t.leaves.Nodup ∧ t.leaves.length ≤ 12 ∧ ∀ (ns : List Str) bk H', ns.Perm t.leaves → sortedS ns = true → Same H H' → H bk = none → BookAt H' bk t ns → Q (.ref bk) H'
theorem sc__law_book : FnScope ["_law_tree_here", "_law_ways_here", "_law_begins", "_law_flags", "_law_leaves", "_law_many_here", "_law_name", "_law_level", "_law_row"] ["_law_tree_here"] (defScope (top 44)) := ⟨rfl, rfl, rfl, by decide +kernel, rfl, by decide +kernel, by decide +kernel⟩
theorem ok_book (T : Free mg) (C__law_ways : Cal P w K mg base 12 "_law_ways" (spWays 12)) (F : Std K "_law_book" "_law_book" (top 44) f fd) (hm : mg "_law_book" = some (.ref f)) : Cal P w K mg base 13 "_law_book" spBook := by
  refine cal_of F hm (fun _ _ _ _ _ _ us hl => match us, hl with | [_], _ => rfl) sc__law_book (fun vs H Q E h => ?_) (fun cdv A outer s H vs Q E hr h => ?_)
  · obtain ⟨_, _, rfl, _⟩ := h; rfl
  · obtain ⟨v, t, rfl, tv, nd, n12, k⟩ := h
    have hu := hu_of hr
    have hh : t.height < 12 := Nat.lt_of_lt_of_le t.height_lt n12
    refine ⟨_, (pss_cons (ps_set (i := 1) sc__law_book.nd rfl (.inl rfl) (pe_f C__law_ways hr (pa_cons (pv 0) (pa_cons pe_str (pa_cons pe_dnewK pa_nil)))))
        (pss_cons (ps_set (i := 2) sc__law_book.nd rfl (.inl rfl) pe_dnewK)
        (pss_cons (ps_set (i := 3) sc__law_book.nd rfl (.inl rfl) pe_dnewK)
        (pss_cons (ps_set (i := 4) sc__law_book.nd rfl (.inl rfl) pe_dnewK)
        (pss_cons (ps_set (i := 5) sc__law_book.nd rfl (.inl rfl) pe_int)
        (pss_cons (ps_for PassesOwn.never rfl (pi_list (pe_callB (call_sortedD rfl) (by rfl) T.sorted (by decide +kernel) (pa_cons (pv 1) pa_nil))) (pg_name (i := 6) sc__law_book.nd rfl (.inl rfl)) (pss_cons (ps_dput hu (pv 2) (pv 6) (pv 5) rfl)
        (pss_cons (ps_dput hu (pv 4) (pe_dget hu (pv 1) (pv 6) (fun _ _ => rfl)) (pv 6) rfl)
        (pss_one (ps_for PassesOwn.never rfl (pi_range1 (by rfl) T.range (pa_cons (pe_callB call_len_str (by rfl) T.len (by decide +kernel) (pa_cons (pe_dget hu (pv 1) (pv 6) (fun _ _ => rfl)) pa_nil)) pa_nil)) (pg_name (i := 7) sc__law_book.nd rfl (.inl rfl)) (pss_cons (ps_set (i := 8) sc__law_book.nd rfl (.inl rfl) (pe_dsetd (pv 3) (pe_slice sl_str (pe_dget hu (pv 1) (pv 6) (fun _ _ => rfl)) po_none (po_some (pv 7))) (pe_lst pa_nil) ⟨rfl, rfl, rfl, rfl⟩))
        (pss_cons (ps_expr (pe_bm PySem.F.plainAttrs_list PySem.F.slot_list_append PySem.F.type_list_append mt_append (pv 8) (pa_cons (pv 5) pa_nil)))
        (pss_one (ps_set (i := 5) sc__law_book.nd rfl (.inl rfl) (pe_op op_add (pv 5) pe_int))))))))))
        (pss_one (ps_ret (pe_tup (pa_cons (pv 1) (pa_cons (pv 2) (pa_cons (pv 3) (pa_cons (pv 4) (pa_cons (pv 5) pa_nil)))))))))))))), ?_⟩
    refine ⟨_, rfl, fun wd nw => ⟨wd, v, t, [], [], by rw [enc_nil]; rfl, tv.mono (Tups.new nw), hh, by decide, upd_same, by simp; omega, by rw [List.map_nil, List.nil_append]; exact kS_nodup nd, ?_⟩⟩
    rw [upd_upd, List.nil_append]
    refine fun bd nb => ?_
    have wb : wd ≠ bd := ne_of_none upd_same nb
    refine fun fl nf => ?_
    have wfl : wd ≠ fl := ne_of_none (by rw [upd_ne wb]; exact upd_same) nf
    have bfl : bd ≠ fl := ne_of_none upd_same nf
    refine fun lf nl => ?_
    have wlf : wd ≠ lf := ne_of_none (by rw [upd_ne wfl, upd_ne wb]; exact upd_same) nl
    have blf : bd ≠ lf := ne_of_none (by rw [upd_ne bfl]; exact upd_same) nl
    have flf : fl ≠ lf := ne_of_none upd_same nl
    have hw3 : (upd (upd (upd (upd H wd (.dK (wayK (t.ways [])))) bd (.dK [])) fl (.dK [])) lf (.dK [])) wd = some (.dK (wayK (t.ways []))) := by rw [upd_ne wlf, upd_ne wfl, upd_ne wb]; exact upd_same
    refine ⟨_, rfl, wd, _, t.leaves, rfl, .inl hw3, by rw [wayK_keys, t.ways_names], by omega, fun ys s pm so ns => ?_⟩
    have sm3 : Same H (upd (upd (upd (upd H wd (.dK (wayK (t.ways [])))) bd (.dK [])) fl (.dK [])) lf (.dK [])) := sNew (sNew (sNew (sNew (Same.refl H) nw) nb) nf) nl
    have nH : ∀ {a : Addr}, (upd (upd (upd (upd H wd (.dK (wayK (t.ways [])))) bd (.dK [])) fl (.dK [])) lf (.dK [])) a = none → H a = none := fun h => sm3.free h
    have nbH : H bd = none := (sNew (Same.refl H) nw).free nb
    have nfH : H fl = none := (sNew (sNew (Same.refl H) nw) nb).free nf
    have nlH : H lf = none := (sNew (sNew (sNew (Same.refl H) nw) nb) nf).free nl
    have nsH : H s = none := nH ns
    have ws : wd ≠ s := ne_of_none hw3 ns
    have bs : bd ≠ s := ne_of_none (by rw [upd_ne blf, upd_ne bfl]; exact upd_same) ns
    have fs : fl ≠ s := ne_of_none (by rw [upd_ne flf]; exact upd_same) ns
    have ls : lf ≠ s := ne_of_none upd_same ns
    have I0 : BI H (upd (upd (upd (upd (upd H wd (.dK (wayK (t.ways [])))) bd (.dK [])) fl (.dK [])) lf (.dK [])) s (.lst (ys.map V.str))) t ys wd bd fl lf s (cellsOf t.way (ys.take 0)) (ys.take 0) [] :=
      ⟨sNew sm3 ns, by rw [upd_ne ws]; exact hw3, ⟨[], by rw [upd_ne bs, upd_ne blf, upd_ne bfl]; exact upd_same, Nat.zero_le _⟩, by rw [upd_ne ls]; exact upd_same, upd_same,
        ⟨by rw [upd_ne fs, upd_ne flf]; exact upd_same, List.nodup_nil, List.nodup_nil, (fun p hp => nomatch hp), (fun c hc => nomatch hc), (fun p hp => nomatch hp)⟩, (fun p hp => nomatch hp)⟩
    have ylen : ys.length ≤ 12 := by rw [pm.length_eq]; exact n12
    have ynd : ys.Nodup := pm.nodup_iff.mpr nd
    have ymem : ∀ {x}, x ∈ ys → x ∈ t.leaves := fun h => pm.mem_iff.mp h
    have wlen : ∀ {x}, x ∈ ys → (t.way x).length ≤ 11 := fun h => Nat.le_trans (t.way_len nd (ymem h)) (by omega)
    refine ⟨s, rfl, ⟨_, SqL.of I0.srt⟩, for_list (K := K) (a := s) (xs := ys.map V.str) (fun j σ H' => ∃ (ks : List (List Bool × Addr)) (v6 v7 v8 : Option V), σ = [some v, some (.ref wd), some (.ref bd), some (.ref fl), some (.ref lf), some (.int ((cellsOf t.way (ys.take j)).length : Nat)), v6, v7, v8] ∧ BI H H' t ys wd bd fl lf s (cellsOf t.way (ys.take j)) (ys.take j) ks)
      ⟨[], none, none, none, rfl, I0⟩ (fun j σ H' _ ⟨_, _, _, _, _, I⟩ => SqL.of I.srt) ?_ ?_⟩
    · rintro j y σ H1 hj ⟨ks, v6, v7, v8, rfl, I⟩
      obtain ⟨x, hx, rfl⟩ : ∃ x, ys[j]? = some x ∧ y = V.str x := by
        rw [List.getElem?_map] at hj
        cases e : ys[j]? with
        | none => rw [e] at hj; cases hj
        | some x => rw [e] at hj; exact ⟨x, rfl, (Option.some.inj hj).symm⟩
      have hxy : x ∈ ys := List.mem_of_getElem? hx
      have hxl : x ∈ t.leaves := ymem hxy
      have hwl := wlen hxy
      have jlt : j < ys.length := (List.getElem?_eq_some_iff.mp hx).1
      have etake : ys.take (j + 1) = ys.take j ++ [x] := by rw [List.take_add_one, hx]; rfl
      have clen : (cellsOf t.way (ys.take j)).length ≤ 132 := by
        refine Nat.le_trans (cells_le t.way 11 _ fun z hz => wlen (List.mem_of_mem_take hz)) ?_
        rw [List.length_take]
        have : min j ys.length * 11 ≤ 12 * 11 := Nat.mul_le_mul_right _ (by omega)
        omega
      have wv : ∀ {H' : Hp}, H' wd = some (.dK (wayK (t.ways []))) → DGet H' wd (.str x) (some (.str (enc (t.way x)))) := fun h => by
        have := DGet.k (k := kS x) h
        rw [way_val nd hxl] at this
        exact this
      -- begins[name] = many
      obtain ⟨kb, hb, lb⟩ := I.b
      have lbb : kb.length ≤ 12 := by
        refine Nat.le_trans lb ?_
        rw [List.length_take]; omega
      refine ⟨_, rfl, _, rfl, _, rfl, bd, _, rfl, DPut.k (k := kS x) hb (small_line' (by omega)), ?_⟩
      have hw2 : (upd H1 bd (.dK (putK kb (kS x) (.int ((cellsOf t.way (ys.take j)).length : Nat))))) wd = some (.dK (wayK (t.ways []))) := by rw [upd_ne wb]; exact I.w
      have hl2 : (upd H1 bd (.dK (putK kb (kS x) (.int ((cellsOf t.way (ys.take j)).length : Nat))))) lf = some (.dK (leafK t (ys.take j))) := by rw [upd_ne (Ne.symm blf)]; exact I.l
      -- leaves[ways[name]] = name
      refine ⟨_, rfl, _, rfl, _, rfl, _, rfl, wd, _, rfl, wv hw2, lf, _, rfl, DPut.k (k := kS (enc (t.way x))) hl2 (small_line' (by rw [leafK, List.length_map, List.length_take]; omega)), ?_⟩
      have nleaf : kS (enc (t.way x)) ∉ (leafK t (ys.take j)).map (·.1) := fun m => by
        rw [leafK_keys] at m
        obtain ⟨z, hz, ez⟩ := List.mem_map.mp m
        have e1 : z = x := t.way_inj nd (ymem (List.mem_of_mem_take hz)) hxl (enc_inj (Sum.inr.inj ez))
        subst e1
        obtain ⟨i, hi, ei⟩ := List.mem_take_iff_getElem.mp hz
        have h1 : ys[i]? = some z := by rw [← ei]; exact List.getElem?_eq_getElem _
        have := nd_ix ynd h1 hx
        omega
      rw [put_end _ nleaf]
      have I2 : BI H (upd (upd H1 bd (.dK (putK kb (kS x) (.int ((cellsOf t.way (ys.take j)).length : Nat))))) lf (.dK (leafK t (ys.take j) ++ [(kS (enc (t.way x)), .str x)]))) t ys wd bd fl lf s (cellsOf t.way (ys.take j) ++ (cellsOne t.way x).take 0) (ys.take (j + 1)) ks := by
        have fk : ∀ {a : Addr}, a ≠ bd → a ≠ lf → (upd (upd H1 bd (.dK (putK kb (kS x) (.int ((cellsOf t.way (ys.take j)).length : Nat))))) lf (.dK (leafK t (ys.take j) ++ [(kS (enc (t.way x)), .str x)]))) a = H1 a := fun h1 h2 => by rw [upd_ne h2, upd_ne h1]
        refine ⟨sOwn (sOwn I.same nbH) nlH, (fk wb wlf).trans I.w, ⟨_, by rw [upd_ne blf]; exact upd_same, ?_⟩, ?_, (fk (Ne.symm bs) (Ne.symm ls)).trans I.srt, ?_, ?_⟩
        · refine Nat.le_trans (putK_le _ _ _) ?_
          rw [etake, List.length_append, List.length_singleton]; omega
        · rw [upd_same, etake]; unfold leafK; rw [List.map_append]; rfl
        · rw [List.take_zero, List.append_nil]
          exact I.f.keep (fk (Ne.symm bfl) flf) fun p hp => fk (ne_of (I.f.row p hp) hb (by intro z; cases z)) (ne_of (I.f.row p hp) I.l (by intro z; cases z))
        · exact I.kn
      -- for level in range(len(ways[name]))
      refine ⟨_, rfl, _, rfl, wd, _, rfl, wv I2.w, _, rfl, small_line (by rw [enc_len]; omega), _, rfl, by omega, by rw [enc_len]; omega, ?_⟩
      refine for_range (lo := 0) (n := (enc (t.way x)).length) (fun i σ H' => ∃ (ks : List (List Bool × Addr)) (v7 v8 : Option V), σ = [some v, some (.ref wd), some (.ref bd), some (.ref fl), some (.ref lf), some (.int ((cellsOf t.way (ys.take j) ++ (cellsOne t.way x).take i).length : Nat)), some (.str x), v7, v8] ∧ BI H H' t ys wd bd fl lf s (cellsOf t.way (ys.take j) ++ (cellsOne t.way x).take i) (ys.take (j + 1)) ks)
        ⟨ks, v7, v8, by rw [List.take_zero, List.append_nil]; rfl, I2⟩ ?_ ?_
      · rintro i σ H2 hi ⟨ks, v7, v8, rfl, I⟩
        rw [enc_len] at hi
        have ci : (cellsOne t.way x)[i]? = some (x, i) := by
          rw [cellsOne_range, List.getElem?_map, List.getElem?_range hi]; rfl
        have cnext : cellsOf t.way (ys.take j) ++ (cellsOne t.way x).take (i + 1) = cellsOf t.way (ys.take j) ++ (cellsOne t.way x).take i ++ [(x, i)] := by
          rw [List.take_add_one, ci, List.append_assoc]; rfl
        have cl2 : (cellsOf t.way (ys.take j) ++ (cellsOne t.way x).take i).length ≤ 143 := by
          rw [List.length_append, List.length_take, cellsOne_len]; omega
        generalize hcs : cellsOf t.way (ys.take j) ++ (cellsOne t.way x).take i = cs at *
        have ek : cutS (enc (t.way x)) none (some (0 + (i : Int))) = enc ((t.way x).take i) := by rw [Int.zero_add, enc_take]
        -- the row is known: the cell goes to its end
        have go : ∀ (H5 : Hp) (ks5 : List (List Bool × Addr)) (p : List Bool × Addr), p ∈ ks5 → p.1 = (t.way x).take i → BI H H5 t ys wd bd fl lf s cs (ys.take (j + 1)) ks5 → tSeq (tDrop (tBM K "list" rAppend (tVar 8) (tCons (tVar 5) tNil))) (tAsg (tOp (rI0 fun i j => .int (i + j)) (tVar 5) (tC (.int 1))) (gName 5)) { nx := fun σ H' => ∃ (ks : List (List Bool × Addr)) (v7 v8 : Option V), σ = [some v, some (.ref wd), some (.ref bd), some (.ref fl), some (.ref lf), some (.int ((cellsOf t.way (ys.take j) ++ (cellsOne t.way x).take (i + 1)).length : Nat)), some (.str x), v7, v8] ∧ BI H H' t ys wd bd fl lf s (cellsOf t.way (ys.take j) ++ (cellsOne t.way x).take (i + 1)) (ys.take (j + 1)) ks, rt := Q }
            [some v, some (.ref wd), some (.ref bd), some (.ref fl), some (.ref lf), some (.int (cs.length : Nat)), some (.str x), some (.int (0 + (i : Int))), some (.ref p.2)] H5 := fun H5 ks5 p hp ep I5 => by
          have hrow := I5.f.row p hp
          have pa := I5.f.av p hp
          refine ⟨_, rfl, .inl ⟨rfl, _, SqL.of hrow⟩, _, rfl, p.2, _, _, rfl, rfl, hrow, small_line' ?_, _, rfl, _, _, rfl, rfl, ?_⟩
          · unfold natV
            rw [List.length_map]
            have := nodup_le (idx (isAt t.way p.1) cs 0) (List.range cs.length) (idx_nodup _ _ _) fun z hz => by
              obtain ⟨q, c, e1, e2, _⟩ := (mem_idx _ _ _ _).mp hz
              have := (List.getElem?_eq_some_iff.mp e2).1
              exact List.mem_range.mpr (by omega)
            rw [List.length_range] at this
            omega
          · refine ⟨ks5, some (.int (0 + (i : Int))), some (.ref p.2), ?_, ?_⟩
            · rw [cnext, List.length_append, List.length_singleton]; rfl
            · rw [cnext]
              have hs5 : s ≠ p.2 := Ne.symm pa.2
              obtain ⟨kb5, hb5, lb5⟩ := I5.b
              exact ⟨sOwn I5.same pa.1, by rw [upd_ne (ne_of I5.w hrow (by intro z; cases z))]; exact I5.w, ⟨kb5, by rw [upd_ne (ne_of hb5 hrow (by intro z; cases z))]; exact hb5, lb5⟩, by rw [upd_ne (ne_of I5.l hrow (by intro z; cases z))]; exact I5.l, by rw [upd_ne hs5]; exact I5.srt, I5.f.push hp (c := (x, i)) ep.symm, I5.kn⟩
        refine ⟨_, rfl, fl, rfl, .inl ⟨_, .inl I.f.dict⟩, _, rfl, _, rfl, wd, _, rfl, wv I.w, _, rfl, _, rfl, _, rfl, small_line (by rw [enc_len]; omega), Nat.zero_le _, fun q nq => ?_⟩
        have I3 : BI H (upd H2 q (.lst [])) t ys wd bd fl lf s cs (ys.take (j + 1)) ks := I.new nq
        have fq : fl ≠ q := ne_of_none I.f.dict nq
        refine ⟨rowK ks, kS (enc ((t.way x).take i)), I3.f.dict, by rw [ek]; rfl, small_line' (by unfold rowK; rw [List.length_map]; have := ks_le n12 I.f.k1 I.kn; omega), fun r hrr => ?_, fun hn => ?_⟩
        · by_cases hF : (t.way x).take i ∈ ks.map (·.1)
          · obtain ⟨p, hp, ep⟩ := List.mem_map.mp hF
            have := I3.f.look hp
            rw [ep, hrr] at this
            cases this
            exact go _ ks p hp ep I3
          · rw [valV_none (row_none hF)] at hrr; cases hrr
        · have hF : (t.way x).take i ∉ ks.map (·.1) := fun hF => by
            obtain ⟨p, hp, ep⟩ := List.mem_map.mp hF
            have := I3.f.look hp
            rw [ep, hn] at this
            cases this
          rw [put_end _ (row_none hF)]
          have qs : q ≠ s := Ne.symm (ne_of_none I.srt nq)
          have hqH : H q = none := I.same.free nq
          refine go _ (ks ++ [((t.way x).take i, q)]) ((t.way x).take i, q) (List.mem_append_right _ List.mem_cons_self) rfl ?_
          have fF := I3.f.add hF upd_same (fun p hp => ne_of_none (I.f.row p hp) nq) ⟨hqH, qs⟩
          obtain ⟨kb5, hb5, lb5⟩ := I3.b
          exact ⟨sOwn I3.same nfH, by rw [upd_ne wfl]; exact I3.w, ⟨kb5, by rw [upd_ne bfl]; exact hb5, lb5⟩, by rw [upd_ne (Ne.symm flf)]; exact I3.l, by rw [upd_ne (Ne.symm fs)]; exact I3.srt, fF, fun p hp => by
            rcases List.mem_append.mp hp with h | h
            · exact I3.kn p h
            · have : p = ((t.way x).take i, q) := by simpa using h
              rw [this]; exact fork_of_cell nd hxl hi⟩
      · rintro σ H2 ⟨ks, v7, v8, rfl, I⟩
        have e1 : (cellsOne t.way x).take (enc (t.way x)).length = cellsOne t.way x := List.take_of_length_le (by rw [enc_len, cellsOne_len]; exact Nat.le_refl _)
        have e2 : cellsOf t.way (ys.take (j + 1)) = cellsOf t.way (ys.take j) ++ cellsOne t.way x := cells_succ _ _ _ _ hx
        rw [e1] at I ⊢
        refine ⟨ks, some (.str x), v7, v8, ?_, ?_⟩
        · rw [e2]
        · rw [e2]; exact I
    · rintro σ H1 ⟨ks, v6, v7, v8, rfl, I⟩
      rw [List.length_map, List.take_length] at I ⊢
      refine ⟨_, rfl, _, rfl, _, rfl, _, rfl, _, rfl, (by show 5 ≤ sizeLine; decide), fun bk nk => ?_⟩
      have I2 := I.new (o := .tup [.ref wd, .ref bd, .ref fl, .ref lf, .int ((cellsOf t.way ys).length : Nat)]) nk
      refine k ys bk _ pm so I2.same (I.same.free nk) ⟨wd, bd, fl, lf, upd_same, I2.w, FlagsAt.of I2.f fun F => ⟨fun h => ?_, fun h => ?_⟩, LeavesAt.of nd pm I2.l⟩
      · obtain ⟨p, hp, e⟩ := List.mem_map.mp h
        rw [← e]; exact I2.kn p hp
      · obtain ⟨x, hx, hl, ht⟩ := cell_of_fork nd h
        have hxy : x ∈ ys := pm.mem_iff.mpr hx
        have := I2.f.has (x, F.length) (List.mem_flatMap.mpr ⟨x, hxy, List.mem_map.mpr ⟨F.length, List.mem_range.mpr hl, rfl⟩⟩)
        rw [ht] at this
        exact this
end
end Fk

set_option Elab.async false
set_option linter.all false
set_option maxRecDepth 100000
set_option maxHeartbeats 4000000
namespace Fk
open PySem PySem.Spec PyProof.Rows L2
/-! ### states -/
def bitV (bs : List Bool) : List V := bs.map fun b => V.int (bitI b)
def StAt (H : Hp) (a : Addr) (bs : List Bool) : Prop := H a = some (.tup (bitV bs))
theorem StAt.same {H H' : Hp} {a : Addr} {bs : List Bool} (h : StAt H a bs) (k : Same H H') : StAt H' a bs := k _ _ h
theorem bitV_len (bs : List Bool) : (bitV bs).length = bs.length := List.length_map ..
theorem bitV_at {bs : List Bool} {i : Nat} (h : i < bs.length) : atI (bitV bs) (i : Int) = some (.int (bitI (bs.getD i false))) := by
  refine atI_nat ?_
  unfold bitV
  rw [List.getElem?_map, List.getD_eq_getElem?_getD, List.getElem?_eq_getElem h]; rfl
theorem natV_at (l : List Nat) (i : Nat) : (natV l)[i]? = l[i]?.map fun (k : Nat) => V.int (k : Int) := List.getElem?_map ..
theorem flags_len (t : Tr) (ns : List Str) (F : List Bool) : (flags t.way ns F).length ≤ cellN t ns := by
  have := nodup_le (flags t.way ns F) (List.range (cellN t ns)) (idx_nodup _ _ _) fun z hz => List.mem_range.mpr (flags_lt t.way hz)
  rwa [List.length_range] at this
/-- '01'[b] -/
theorem bit_at (b : Bool) : atI ("01" : Str).cps.toList (bitI b) = some (bitC b) := by cases b <;> decide +kernel
section
variable {P : Program} {w : World} {K : PySem.W.Frag} {mg : Str → Option Value} {base : Heap} {f : Addr} {fd : FuncData}
/-- the parity's sum, taken from a comprehension -/
def spSide : Sp := fun vs H Q _ => ∃ (bk st : Addr) (t : Tr) (ns : List Str) (bs : List Bool) (F : List Bool), vs = [.ref bk, .ref st, .str (enc F)] ∧ BookAt H bk t ns ∧ StAt H st bs ∧ bs.length = cellN t ns ∧ cellN t ns ≤ 200 ∧ F ∈ t.forks [] ∧
  ∀ H', Same H H' → Q (.int (bitI (board t.way ns bs F))) H'
theorem sc__law_side : FnScope ["_law_book_here", "_law_state_here", "_law_fork", "_law_at"] ["_law_book_here", "_law_state_here", "_law_fork"] (defScope (top 45)) := ⟨rfl, rfl, rfl, by decide +kernel, rfl, by decide +kernel, by decide +kernel⟩
theorem ok_side (T : Free mg) (F : Std K "_law_side" "_law_side" (top 45) f fd) (hm : mg "_law_side" = some (.ref f)) : Cal P w K mg base 1 "_law_side" spSide := by
  refine cal_of F hm (fun _ _ _ _ _ _ us hl => match us, hl with | [_, _, _], _ => rfl) sc__law_side (fun vs H Q E h => ?_) (fun cdv A outer s H vs Q E hr h => ?_)
  · obtain ⟨_, _, _, _, _, _, rfl, _⟩ := h; rfl
  · obtain ⟨bk, st, t, ns, bs, G, rfl, hb, hs, hl, hc, hG, k⟩ := h
    have hu := hu_of hr
    refine ⟨_, (pss_one (ps_ret (pe_op op_mod (pe_int1 T.int (pa_cons (pe_callB (cr_sum rfl) (by rfl) T.sum (by decide +kernel) (pa_cons (pe_lc rfl sc__law_side.nd (pi_list (pe_dget hu (pe_ix ix_tup (pv 0) pe_int (fun _ _ => rfl)) (pv 2) (fun _ _ => rfl))) (blkOk_by (own := [("_law_at", 3)]) (N := ["_law_book_here", "_law_state_here", "_law_fork", "_law_at"]) (sc := defScope (top 45)) (by decide +kernel)) (fun _ _ _ _ _ => (pg_name (i := 3) sc__law_side.nd rfl (.inl rfl))) (fun _ _ _ _ _ => pts_nil) (fun _ _ _ _ _ => (pe_ix (show IxR _ (rIxT K) from ix_tup) (pv 1) (pv 3) (fun _ _ => rfl)))) pa_nil)) pa_nil)) pe_int))), ?_⟩
    obtain ⟨wd, bd, fl, lf, e1, e2, ⟨kvs, e3, e4, e5⟩, _⟩ := hb.got
    obtain ⟨p, e6, e7⟩ := e4 G hG
    refine ⟨_, rfl, _, _, _, _, rfl, rfl, SqT.of e1, atI_nat (j := 2) rfl, _, rfl, fl, _, rfl, e6 ▸ DGet.k (k := kS (enc G)) e3, p, rfl, ⟨_, SqL.of e7⟩, fun D hD => ?_⟩
    have Dp : p ≠ D := ne_of_none e7 hD
    have Ds : st ≠ D := ne_of_none hs hD
    refine lc_it (walk_list (K := K) (a := p) (xs := natV (flags t.way ns G))) (fun j H1 => H1 = upd H D (.lst (((flags t.way ns G).take j).map fun i => V.int (bitI (bs.getD i false))))) (by simp) (fun j H1 _ e => e ▸ SqL.of (by rw [upd_ne Dp]; exact e7)) ?_ ?_
    · rintro j y H1 H2 hj rfl ⟨rfl, hy⟩
      rw [natV_at] at hy
      cases hi : (flags t.way ns G)[j]? with
      | none => rw [hi] at hy; cases hy
      | some i =>
        rw [hi] at hy
        cases Option.some.inj hy
        have il : i < bs.length := by rw [hl]; exact flags_lt t.way (List.mem_of_getElem? hi)
        refine ⟨rfl, _, rfl, _, rfl, st, _, _, _, rfl, rfl, SqT.of (by rw [upd_ne Ds]; exact hs), bitV_at il, _, upd_same, small_line' ?_, ?_⟩
        · rw [List.length_map]
          refine Nat.le_trans (List.length_take_le' _ _) ?_
          exact Nat.le_trans (flags_len t ns G) (by omega)
        · rw [upd_upd, List.take_add_one, hi, List.map_append]; rfl
    · rintro H1 rfl
      have el : (flags t.way ns G).take (natV (flags t.way ns G)).length = flags t.way ns G := List.take_of_length_le (Nat.le_of_eq (by unfold natV; rw [List.length_map]))
      refine ⟨D, (flags t.way ns G).map fun i => bitI (bs.getD i false), rfl, SqL.of (by rw [upd_same, el, List.map_map]; rfl), .inl ⟨_, rfl, ?_⟩⟩
      refine ⟨_, _, rfl, rfl, (by show (0 : Int) < 2; decide), ?_⟩
      have e8 := px_sum bs (flags t.way ns G)
      show Q (.int (_ % 2)) _
      rw [e8]
      exact k _ (sNew (Same.refl H) hD)
/-! ### _law_teller -/
def spTeller : Sp := fun vs H Q _ => ∃ (bk st : Addr) (t : Tr) (ns : List Str) (bs : List Bool), vs = [.ref bk, .ref st] ∧ BookAt H bk t ns ∧ StAt H st bs ∧ bs.length = cellN t ns ∧ cellN t ns ≤ 200 ∧ t.height ≤ 11 ∧
  ∀ H', Same H H' → Q (.str (told t ns bs)) H'
theorem sc__law_teller : FnScope ["_law_book_here", "_law_state_here", "_law_way", "_law_k"] ["_law_book_here", "_law_state_here"] (defScope (top 46)) := ⟨rfl, rfl, rfl, by decide +kernel, rfl, by decide +kernel, by decide +kernel⟩
theorem ok_teller (T : Free mg) (C__law_side : Cal P w K mg base 1 "_law_side" spSide) (F : Std K "_law_teller" "_law_teller" (top 46) f fd) (hm : mg "_law_teller" = some (.ref f)) : Cal P w K mg base 2 "_law_teller" spTeller := by
  refine cal_of F hm (fun _ _ _ _ _ _ us hl => match us, hl with | [_, _], _ => rfl) sc__law_teller (fun vs H Q E h => ?_) (fun cdv A outer s H vs Q E hr h => ?_)
  · obtain ⟨_, _, _, _, _, rfl, _⟩ := h; rfl
  · obtain ⟨bk, st, t, ns, bs, rfl, hb, hs, hl, hc, ht, k⟩ := h
    have hu := hu_of hr
    refine ⟨_, (pss_cons (ps_set (i := 2) sc__law_teller.nd rfl (.inl rfl) pe_str)
        (pss_cons (ps_for PassesOwn.never rfl (pi_range1 (by rfl) T.range (pa_cons pe_int pa_nil)) (pg_name (i := 3) sc__law_teller.nd rfl (.inl rfl)) (pss_cons (ps_if (pt_cmp (pc_din hu (pv 2) (pe_ix ix_tup (pv 0) pe_int (fun _ _ => rfl)))) (pss_one (ps_ret (pe_dget hu (pe_ix ix_tup (pv 0) pe_int (fun _ _ => rfl)) (pv 2) (fun _ _ => rfl)))) pss_nil)
        (pss_one (ps_set (i := 2) sc__law_teller.nd rfl (.inl rfl) (pe_op op_add_str (pv 2) (pe_ix ix_str pe_str (pe_f C__law_side hr (pa_cons (pv 0) (pa_cons (pv 1) (pa_cons (pv 2) pa_nil)))) (fun _ _ => rfl)))))))
        (pss_one (ps_ret pe_str)))), ?_⟩
    refine ⟨_, rfl, by decide, by decide, ?_⟩
    refine for_range (lo := 0) (n := 12) (fun i σ H' => ∃ (wy : List Bool) (u : Tr) (v : Option V), σ = [some (.ref bk), some (.ref st), some (.str (enc wy)), v] ∧ wy.length = i ∧ t.sub wy = some u ∧ told t ns bs = u.tell (board t.way ns bs) wy ∧ Same H H')
      ⟨[], t, none, by rw [enc_nil]; rfl, rfl, t.sub_nil, rfl, Same.refl H⟩ ?_ ?_
    · rintro i σ H1 hi ⟨wy, u, v, rfl, hw, hsub, htell, sm⟩
      obtain ⟨wd, bd, fl, lf, e1, e2, e3, ⟨kvs, e4, e5, e6⟩⟩ := (hb.same sm).got
      cases u with
      | leaf x =>
        have e7 := e5 wy x hsub
        refine ⟨_, rfl, _, rfl, _, _, _, _, rfl, rfl, SqT.of e1, atI_nat (j := 3) rfl, lf, some (.str x), rfl, e7 ▸ DGet.k (k := kS (enc wy)) e4, _, rfl, iteT ?_⟩
        refine ⟨_, rfl, _, _, _, _, rfl, rfl, SqT.of e1, atI_nat (j := 3) rfl, _, rfl, lf, _, rfl, e7 ▸ DGet.k (k := kS (enc wy)) e4, ?_⟩
        rw [← show told t ns bs = x from htell]
        exact k _ sm
      | fork l r =>
        have e7 := e6 wy (fun x e => by rw [hsub] at e; cases e)
        refine ⟨_, rfl, _, rfl, _, _, _, _, rfl, rfl, SqT.of e1, atI_nat (j := 3) rfl, lf, none, rfl, e7 ▸ DGet.k (k := kS (enc wy)) e4, _, rfl, iteF ?_⟩
        have hfk : wy ∈ t.forks [] := (t.mem_forks [] wy).mpr ⟨wy, rfl, l, r, hsub⟩
        obtain ⟨n1, n2⟩ := Tr.tell_step (b := board t.way ns bs) hsub
        refine ⟨_, rfl, _, rfl, _, rfl, _, rfl, bk, st, t, ns, bs, wy, rfl, hb.same sm, hs.same sm, hl, hc, hfk, fun H2 sm2 => ?_⟩
        refine ⟨_, _, _, rfl, rfl, (by decide +kernel), bit_at _, _, _, rfl, rfl, small_line (n := (enc wy).length + 1) (by rw [enc_len]; omega), ?_⟩
        refine ⟨wy ++ [board t.way ns bs wy], _, some (.int (0 + (i : Int))), ?_, by rw [List.length_append, hw]; rfl, n1, htell.trans n2, sm.trans sm2⟩
        rw [sign_enc, enc_cat]; rfl
    · rintro σ H1 ⟨wy, u, v, rfl, hw, hsub, htell, sm⟩
      have := t.sub_height wy u hsub
      omega
end
end Fk

set_option Elab.async false
set_option linter.all false
set_option maxRecDepth 100000
set_option maxHeartbeats 4000000
namespace Fk
open PySem PySem.Spec PyProof.Rows L2
section
variable {P : Program} {w : World} {K : PySem.W.Frag} {mg : Str → Option Value} {base : Heap} {f : Addr} {fd : FuncData}
/-! ### _law_after: of one pair -/
def spAfter : Sp := fun vs H Q _ => ∃ (st row p : Addr) (bs : List Bool) (i : Nat) (c : Bool), vs = [.ref st, .ref row] ∧ StAt H st bs ∧ H row = some (.lst [.ref p]) ∧ H p = some (.tup [.int (i : Int), .int (bitI c)]) ∧ i < bs.length ∧
  ∀ q H', Same H H' → H q = none → StAt H' q (bs.set i c) → Q (.ref q) H'
theorem bitV_set (bs : List Bool) (i : Nat) (c : Bool) : bitV (bs.set i c) = (bitV bs).set i (.int (bitI c)) := by
  unfold bitV
  rw [List.map_set]
theorem ixN_nat {n i : Nat} (h : i < n) : ixN n (i : Int) = some i := by
  unfold ixN
  rw [if_pos (by omega), if_pos (by omega)]; rfl
theorem sc__law_after : FnScope ["_law_state_here", "_law_row", "_law_marks", "_law_at", "_law_mark"] ["_law_state_here", "_law_row"] (defScope (top 48)) := ⟨rfl, rfl, rfl, by decide +kernel, rfl, by decide +kernel, by decide +kernel⟩
theorem ok_after (T : Free mg) (F : Std K "_law_after" "_law_after" (top 48) f fd) (hm : mg "_law_after" = some (.ref f)) : Cal P w K mg base 1 "_law_after" spAfter := by
  refine cal_of F hm (fun _ _ _ _ _ _ us hl => match us, hl with | [_, _], _ => rfl) sc__law_after (fun vs H Q E h => ?_) (fun cdv A outer s H vs Q E hr h => ?_)
  · obtain ⟨_, _, _, _, _, _, rfl, _⟩ := h; rfl
  · obtain ⟨st, row, p, bs, i, c, rfl, hs, hrow, hp, hi, k⟩ := h
    refine ⟨_, (pss_cons (ps_set (i := 2) sc__law_after.nd rfl (.inl rfl) (pe_callTy call_list_of (by rfl) T.list (by decide +kernel) (pa_cons (pv 0) pa_nil)))
        (pss_cons (ps_for PassesOwn.never rfl (pi_list (pv 1)) (pg_tup rfl (pgs_cons (pg_name (i := 3) sc__law_after.nd rfl (.inl rfl)) (pgs_cons (pg_name (i := 4) sc__law_after.nd rfl (.inl rfl)) pgs_nil))) (pss_one (ps_asg (pv 4) (pg_sub (pv 2) (pv 3) set_list))))
        (pss_one (ps_ret (pe_callTy call_tuple_of (by rfl) T.tuple (by decide +kernel) (pa_cons (pv 2) pa_nil)))))), ?_⟩
    refine ⟨_, rfl, st, _, rfl, .inr (SqT.of hs), fun l nl => ?_⟩
    have lp : p ≠ l := ne_of_none hp nl
    have lrow : row ≠ l := ne_of_none hrow nl
    refine ⟨_, rfl, row, rfl, ⟨_, SqL.of (by rw [upd_ne lrow]; exact hrow)⟩, ?_⟩
    refine for_list (K := K) (a := row) (xs := [.ref p]) (fun j σ H' => ∃ (v3 v4 : Option V) (xs : List V), σ = [some (.ref st), some (.ref row), some (.ref l), v3, v4] ∧ (xs = if j = 0 then bitV bs else bitV (bs.set i c)) ∧ H' = upd H l (.lst xs))
      ⟨none, none, _, rfl, rfl, rfl⟩ (fun j σ H' _ ⟨_, _, _, _, _, e⟩ => e ▸ SqL.of (by rw [upd_ne lrow]; exact hrow)) ?_ ?_
    · rintro j y σ H1 hj ⟨v3, v4, xs, rfl, hx, rfl⟩
      have j0 : j = 0 := by
        have := (List.getElem?_eq_some_iff.mp hj).1
        simp at this; exact this
      subst j0
      cases Option.some.inj hj
      rw [if_pos rfl] at hx
      subst hx
      refine ⟨p, _, rfl, SqT.of (by rw [upd_ne lp]; exact hp), rfl, _, _, rfl, _, _, rfl, rfl, ?_⟩
      refine ⟨_, rfl, _, rfl, _, rfl, l, _, _, i, rfl, rfl, upd_same, ixN_nat (by rw [bitV_len]; exact hi), ?_⟩
      refine ⟨_, _, bitV (bs.set i c), rfl, rfl, ?_⟩
      rw [upd_upd, bitV_set]
    · rintro σ H1 ⟨v3, v4, xs, rfl, hx, rfl⟩
      rw [if_neg (by simp)] at hx
      subst hx
      refine ⟨_, rfl, l, _, rfl, .inl ⟨SqL.of upd_same, fun q nq => ?_⟩⟩
      exact k q _ (sNew (sNew (Same.refl H) nl) nq) ((sNew (Same.refl H) nl).free nq) upd_same
/-! ### _law_state -/
def spState : Sp := fun vs H Q _ => ∃ (b : Addr) (n : Nat), vs = [.ref b, .int (n : Int)] ∧ Bx H b ∧ n ≤ 200 ∧
  ∀ (bs : List Bool) q H', bs.length = n → But b H H' → Bx H' b → H q = none → StAt H' q bs → Q (.ref q) H'
theorem sc__law_state : FnScope ["_law_box_here", "_law_many_here", "_law_kind", "_law_k"] ["_law_box_here", "_law_many_here"] (defScope (top 49)) := ⟨rfl, rfl, rfl, by decide +kernel, rfl, by decide +kernel, by decide +kernel⟩
theorem ok_state (T : Free mg) (C__law_take : Cal P w K mg base 2 "_law_take" spTake) (F : Std K "_law_state" "_law_state" (top 49) f fd) (hm : mg "_law_state" = some (.ref f)) : Cal P w K mg base 3 "_law_state" spState := by
  refine cal_of F hm (fun _ _ _ _ _ _ us hl => match us, hl with | [_, _], _ => rfl) sc__law_state (fun vs H Q E h => ?_) (fun cdv A outer s H vs Q E hr h => ?_)
  · obtain ⟨_, _, rfl, _⟩ := h; rfl
  · obtain ⟨b, n, rfl, bx, hn, k⟩ := h
    refine ⟨_, (pss_cons (ps_set (i := 2) sc__law_state.nd rfl (.inl rfl) (pe_f C__law_take hr (pa_cons (pv 0) (pa_cons pe_int pa_nil))))
        (pss_cons (ps_if (pt_cmpR op_eq (pv 2) pe_int (nomark _)) (pss_one (ps_ret (pe_callTy call_tuple_of (by rfl) T.tuple (by decide +kernel) (pa_cons (pe_lc rfl sc__law_state.nd (pi_range1 (by rfl) T.range (pa_cons (pv 1) pa_nil)) (blkOk_by (own := [("_law_k", 3)]) (N := ["_law_box_here", "_law_many_here", "_law_kind", "_law_k"]) (sc := defScope (top 49)) (by decide +kernel)) (fun _ _ _ _ _ => (pg_name (i := 3) sc__law_state.nd rfl (.inl rfl))) (fun _ _ _ _ _ => pts_nil) (fun _ _ _ _ _ => pe_int)) pa_nil)))) pss_nil)
        (pss_cons (ps_if (pt_cmpR op_eq (pv 2) pe_int (nomark _)) (pss_one (ps_ret (pe_callTy call_tuple_of (by rfl) T.tuple (by decide +kernel) (pa_cons (pe_lc rfl sc__law_state.nd (pi_range1 (by rfl) T.range (pa_cons (pv 1) pa_nil)) (blkOk_by (own := [("_law_k", 3)]) (N := ["_law_box_here", "_law_many_here", "_law_kind", "_law_k"]) (sc := defScope (top 49)) (by decide +kernel)) (fun _ _ _ _ _ => (pg_name (i := 3) sc__law_state.nd rfl (.inl rfl))) (fun _ _ _ _ _ => pts_nil) (fun _ _ _ _ _ => pe_int)) pa_nil)))) pss_nil)
        (pss_one (ps_ret (pe_callTy call_tuple_of (by rfl) T.tuple (by decide +kernel) (pa_cons (pe_lc rfl sc__law_state.nd (pi_range1 (by rfl) T.range (pa_cons (pv 1) pa_nil)) (blkOk_by (own := [("_law_k", 3)]) (N := ["_law_box_here", "_law_many_here", "_law_kind", "_law_k"]) (sc := defScope (top 49)) (by decide +kernel)) (fun _ _ _ _ _ => (pg_name (i := 3) sc__law_state.nd rfl (.inl rfl))) (fun _ _ _ _ _ => pts_nil) (fun _ _ _ _ _ => (pe_f C__law_take hr (pa_cons (pv 0) (pa_cons pe_int pa_nil))))) pa_nil))))))), ?_⟩
    refine ⟨_, rfl, ?_⟩
    refine ⟨b, 8, rfl, bx, by decide, by decide, fun d H1 d0 d1 bt1 bx1 => ?_⟩
    -- the list's state
    let Lst (D : Addr) (j : Nat) (H' : Hp) : Prop := ∃ bs : List Bool, bs.length = j ∧ But b H1 H' ∧ Bx H' b ∧ H' D = some (.lst (bitV bs))
    have fin : ∀ D H2, H1 D = none → Lst D n H2 → ∃ p ys, [V.ref D] = [.ref p] ∧ ((SqL K H2 p ys ∧ ∀ l, H2 l = none → Q (.ref l) (upd H2 l (.tup ys))) ∨ (SqT K H2 p ys ∧ Q (.ref p) H2)) := by
      rintro D H2 nD ⟨bs, hl, bt, bx2, hD⟩
      refine ⟨D, bitV bs, rfl, .inl ⟨SqL.of hD, fun q nq => ?_⟩⟩
      have bt2 : But b H H2 := bt1.trans bt
      refine k bs q _ hl (bt2.new nq) ?_ (bt2.free bx2 nq) upd_same
      obtain ⟨r, s', t, z⟩ := bx2
      exact ⟨r, s', t, by rw [upd_ne (ne_of_none z nq)]; exact z⟩
    have start : ∀ D, H1 D = none → Lst D 0 (upd H1 D (.lst [])) := fun D nD => ⟨[], rfl, (But.refl b H1).new nD, (by
      obtain ⟨r, s', t, z⟩ := bx1
      exact ⟨r, s', t, by rw [upd_ne (ne_of_none z nD)]; exact z⟩), upd_same⟩
    have step : ∀ D j H2 H3 (c : Bool), H1 D = none → j < n → Lst D j H2 → But b H2 H3 → Bx H3 b → ∃ acc, H3 D = some (.lst acc) ∧ acc.length < sizeLine ∧ Lst D (j + 1) (upd H3 D (.lst (acc ++ [.int (bitI c)]))) := by
      rintro D j H2 H3 c nD hj ⟨bs, hl, bt, bx2, hD⟩ bt3 bx3
      have Db : D ≠ b := fun e => by
        obtain ⟨r, s', t, z⟩ := bx1
        rw [e, z] at nD; cases nD
      refine ⟨bitV bs, bt3 _ _ Db hD, small_line' (by rw [bitV_len]; omega), bs ++ [c], by rw [List.length_append, hl]; rfl, (bt.trans bt3).own nD, ?_, by rw [upd_same]; unfold bitV; rw [List.map_append]; rfl⟩
      obtain ⟨r, s', t, z⟩ := bx3
      exact ⟨r, s', t, by rw [upd_ne (Ne.symm Db)]; exact z⟩
    refine ⟨_, rfl, rfl, _, rfl, ite2 (fun c => ?_) (fun c => ?_)⟩
    · refine ⟨_, rfl, _, rfl, by omega, by omega, fun D nD => ?_⟩
      refine lc_it (walk_range (lo := 0) (n := n)) (fun j H2 => Lst D j H2) (start D nD) (fun _ _ _ _ => trivial) ?_ (fun H2 h => fin D H2 nD h)
      rintro j y H2 H3 hj hL ⟨rfl, rfl⟩
      refine ⟨rfl, ?_⟩
      obtain ⟨acc, e1, e2, e3⟩ := step D j _ _ false nD hj hL (But.refl _ _) (by obtain ⟨_, _, _, bx2, _⟩ := hL; exact bx2)
      exact ⟨acc, e1, e2, e3⟩
    · refine ⟨_, rfl, rfl, _, rfl, ite2 (fun c => ?_) (fun c => ?_)⟩
      · refine ⟨_, rfl, _, rfl, by omega, by omega, fun D nD => ?_⟩
        refine lc_it (walk_range (lo := 0) (n := n)) (fun j H2 => Lst D j H2) (start D nD) (fun _ _ _ _ => trivial) ?_ (fun H2 h => fin D H2 nD h)
        rintro j y H2 H3 hj hL ⟨rfl, rfl⟩
        refine ⟨rfl, ?_⟩
        obtain ⟨acc, e1, e2, e3⟩ := step D j _ _ true nD hj hL (But.refl _ _) (by obtain ⟨_, _, _, bx2, _⟩ := hL; exact bx2)
        exact ⟨acc, e1, e2, e3⟩
      · refine ⟨_, rfl, _, rfl, by omega, by omega, fun D nD => ?_⟩
        refine lc_it (walk_range (lo := 0) (n := n)) (fun j H2 => Lst D j H2) (start D nD) (fun _ _ _ _ => trivial) ?_ (fun H2 h => fin D H2 nD h)
        rintro j y H2 H3 hj hL ⟨rfl, rfl⟩
        have bx2 : Bx H3 b := by obtain ⟨_, _, _, bx2, _⟩ := hL; exact bx2
        refine ⟨rfl, _, rfl, b, 2, rfl, bx2, by decide, by decide, fun e H4 e0 e1 bt4 bx4 => ?_⟩
        have ee : e = bitI (decide (e = 1)) := by
          by_cases h : e = 1
          · rw [h]; rfl
          · have : e = 0 := by omega
            rw [this]; rfl
        obtain ⟨acc, h1, h2, h3⟩ := step D j _ _ (decide (e = 1)) nD hj hL bt4 bx4
        rw [← ee] at h3
        exact ⟨acc, h1, h2, h3⟩
end
end Fk

set_option Elab.async false
set_option linter.all false
set_option maxRecDepth 100000
set_option maxHeartbeats 4000000
namespace Fk
open PySem PySem.Spec PyProof.Rows L2
section
variable {P : Program} {w : World} {K : PySem.W.Frag} {mg : Str → Option Value} {base : Heap} {f : Addr} {fd : FuncData}
/-! ### _law_parting -/
def spParting : Sp := fun vs H Q _ => ∃ (bk : Addr) (t : Tr) (ns : List Str) (x y : Str), vs = [.ref bk, .str x, .str y] ∧ BookAt H bk t ns ∧ t.leaves.Nodup ∧ x ∈ t.leaves ∧ y ∈ t.leaves ∧ t.way x ≠ [] ∧ t.way y ≠ [] ∧ (t.way x).length ≤ 20 ∧ (t.way y).length ≤ 20 ∧
  ∀ G : List Bool, (G = [] ↔ (t.way x).getD 0 false ≠ (t.way y).getD 0 false) → Q (.str (enc G)) H
theorem take1 {wx : List Bool} (h : wx ≠ []) (i : Nat) : ∃ r, wx.take (i + 1) = wx.getD 0 false :: r := by
  cases wx with
  | nil => exact absurd rfl h
  | cons c r => exact ⟨r.take i, rfl⟩
theorem sc__law_parting : FnScope ["_law_book_here", "_law_a", "_law_b", "_law_fork", "_law_k"] ["_law_book_here", "_law_a", "_law_b"] (defScope (top 53)) := ⟨rfl, rfl, rfl, by decide +kernel, rfl, by decide +kernel, by decide +kernel⟩
theorem ok_parting (T : Free mg) (F : Std K "_law_parting" "_law_parting" (top 53) f fd) (hm : mg "_law_parting" = some (.ref f)) : Cal P w K mg base 1 "_law_parting" spParting := by
  refine cal_of F hm (fun _ _ _ _ _ _ us hl => match us, hl with | [_, _, _], _ => rfl) sc__law_parting (fun vs H Q E h => ?_) (fun cdv A outer s H vs Q E hr h => ?_)
  · obtain ⟨_, _, _, _, _, rfl, _⟩ := h; rfl
  · obtain ⟨bk, t, ns, x, y, rfl, hb, nd, hx, hy, wx, wy, lx, ly, k⟩ := h
    have hu := hu_of hr
    refine ⟨_, (pss_cons (ps_set (i := 3) sc__law_parting.nd rfl (.inl rfl) pe_str)
        (pss_cons (ps_for PassesOwn.never rfl (pi_range1 (by rfl) T.range (pa_cons pe_int pa_nil)) (pg_name (i := 4) sc__law_parting.nd rfl (.inl rfl)) (pss_one (ps_if (pt_cmpR op_eq (pe_slice sl_str (pe_dget hu (pe_ix ix_tup (pv 0) pe_int (fun _ _ => rfl)) (pv 1) (fun _ _ => rfl)) po_none (po_some (pv 4))) (pe_slice sl_str (pe_dget hu (pe_ix ix_tup (pv 0) pe_int (fun _ _ => rfl)) (pv 2) (fun _ _ => rfl)) po_none (po_some (pv 4))) (nomark _)) (pss_one (ps_set (i := 3) sc__law_parting.nd rfl (.inl rfl) (pe_slice sl_str (pe_dget hu (pe_ix ix_tup (pv 0) pe_int (fun _ _ => rfl)) (pv 1) (fun _ _ => rfl)) po_none (po_some (pv 4))))) pss_nil)))
        (pss_one (ps_ret (pv 3))))), ?_⟩
    obtain ⟨wd, bd, fl, lf, e1, e2, _, _⟩ := hb.got
    have dx : DGet H wd (.str x) (some (.str (enc (t.way x)))) := by
      have := DGet.k (k := kS x) e2
      rwa [way_val nd hx] at this
    have dy : DGet H wd (.str y) (some (.str (enc (t.way y)))) := by
      have := DGet.k (k := kS y) e2
      rwa [way_val nd hy] at this
    refine ⟨_, rfl, by decide, by decide, ?_⟩
    refine for_range (lo := 0) (n := 12) (fun i σ H' => ∃ (G : List Bool) (v : Option V), σ = [some (.ref bk), some (.str x), some (.str y), some (.str (enc G)), v] ∧ H' = H ∧ (i ≤ 1 → G = []) ∧ (2 ≤ i → (G = [] ↔ (t.way x).getD 0 false ≠ (t.way y).getD 0 false)))
      ⟨[], none, by rw [enc_nil]; rfl, rfl, fun _ => rfl, fun h => by omega⟩ ?_ ?_
    · rintro i σ H1 hi ⟨G, v, rfl, rfl, h1, h2⟩
      have ek : ∀ u : List Bool, cutS (enc u) none (some (0 + (i : Int))) = enc (u.take i) := fun u => by rw [Int.zero_add, enc_take]
      refine ⟨_, rfl, _, _, _, _, rfl, rfl, SqT.of e1, atI_nat (j := 0) rfl, _, rfl, wd, _, rfl, dx, _, rfl, _, rfl, _, rfl, small_line (n := (enc (t.way x)).length) (by rw [enc_len]; omega), ?_⟩
      refine ⟨_, rfl, _, _, _, _, rfl, rfl, SqT.of e1, atI_nat (j := 0) rfl, _, rfl, wd, _, rfl, dy, _, rfl, _, rfl, _, rfl, small_line (n := (enc (t.way y)).length) (by rw [enc_len]; omega), ?_⟩
      rw [ek, ek]
      refine ⟨rfl, _, rfl, ite2 (fun c => ?_) (fun c => ?_)⟩
      · have c : (t.way x).take i = (t.way y).take i := enc_inj (V.str.inj (of_decide_eq_true c))
        refine ⟨_, rfl, _, _, _, _, rfl, rfl, SqT.of e1, atI_nat (j := 0) rfl, _, rfl, wd, _, rfl, dx, _, rfl, _, rfl, _, rfl, small_line (n := (enc (t.way x)).length) (by rw [enc_len]; omega), ?_⟩
        rw [ek]
        refine ⟨(t.way x).take i, some (.int (0 + (i : Int))), rfl, rfl, fun h => ?_, fun h => ?_⟩
        · have : i = 0 := by omega
          subst this; rfl
        · obtain ⟨j, rfl⟩ : ∃ j, i = j + 1 := ⟨i - 1, by omega⟩
          obtain ⟨r1, q1⟩ := take1 wx j
          obtain ⟨r2, q2⟩ := take1 wy j
          rw [q1, q2] at c
          rw [q1]
          exact ⟨fun z => (nomatch z), fun z => absurd (List.cons.inj c).1 z⟩
      · have c : (t.way x).take i ≠ (t.way y).take i := fun z => c (by
          refine decide_eq_true ?_
          rw [z])
        refine ⟨G, some (.int (0 + (i : Int))), rfl, rfl, fun h => h1 (by omega), fun h => ?_⟩
        by_cases h3 : 2 ≤ i
        · exact h2 h3
        · have : i = 1 := by omega
          subst this
          refine ⟨fun _ e => c ?_, fun _ => h1 (Nat.le_refl _)⟩
          cases q1 : t.way x with
          | nil => exact absurd q1 wx
          | cons c1 r1 =>
            cases q2 : t.way y with
            | nil => exact absurd q2 wy
            | cons c2 r2 =>
              rw [q1, q2] at e
              have e : c1 = c2 := e
              rw [e]; rfl
    · rintro σ H1 ⟨G, v, rfl, rfl, h1, h2⟩
      exact ⟨_, rfl, k G (h2 (by decide))⟩
/-! ### _law_all_states -/
def spAll : Sp := fun vs H Q _ => ∃ (n : Nat), vs = [.int (n : Int)] ∧ n ≤ 6 ∧
  ∀ (ps : List Addr) q H', Same H H' → H q = none → H' q = some (.lst (ps.map V.ref)) → (∀ p ∈ ps, ∃ bs : List Bool, bs.length = n ∧ StAt H' p bs) → Q (.ref q) H'
def AllL (H : Hp) (i m : Nat) (q : Addr) : Prop := ∃ ps : List Addr, ps.length = m ∧ H q = some (.lst (ps.map V.ref)) ∧ ∀ p ∈ ps, ∃ bs : List Bool, bs.length = i ∧ StAt H p bs
/-- one of the two rows: every state goes on with a mark -/
structure RowI (i : Nat) (H2 : Hp) (D : Addr) (j : Nat) (H : Hp) : Prop where
  same : Same H2 H
  got : ∃ qs : List Addr, qs.length = j ∧ H D = some (.lst (qs.map V.ref)) ∧ ∀ p ∈ qs, ∃ bs : List Bool, bs.length = i + 1 ∧ StAt H p bs
theorem RowI.zero {i : Nat} {H2 : Hp} {D : Addr} (n : H2 D = none) : RowI i H2 D 0 (upd H2 D (.lst [])) := ⟨sNew (Same.refl _) n, [], rfl, upd_same, fun p hp => nomatch hp⟩
theorem RowI.step {i j : Nat} {H2 H H4 : Hp} {D r : Addr} {bs : List Bool} (I : RowI i H2 D j H) (n : H2 D = none) (hj : j ≤ 64) (sm : Same H H4) (hl : bs.length = i + 1) (hr : StAt H4 r bs) :
    ∃ acc, H4 D = some (.lst acc) ∧ acc.length < sizeLine ∧ RowI i H2 D (j + 1) (upd H4 D (.lst (acc ++ [.ref r]))) := by
  obtain ⟨qs, e1, e2, e3⟩ := I.got
  have e4 := sm _ _ e2
  have ne : ∀ {p : Addr} {b : List Bool}, StAt H4 p b → p ≠ D := fun h => ne_of h e4 (by intro z; cases z)
  refine ⟨_, e4, small_line' (by rw [List.length_map]; omega), sOwn (I.same.trans sm) n, qs ++ [r], by rw [List.length_append, e1]; rfl, by rw [upd_same, List.map_append]; rfl, fun p hp => ?_⟩
  rcases List.mem_append.mp hp with h | h
  · obtain ⟨b, h1, h2⟩ := e3 p h
    have h3 := h2.same sm
    exact ⟨b, h1, by unfold StAt; rw [upd_ne (ne h3)]; exact h3⟩
  · have : p = r := by simpa using h
    subst this
    exact ⟨bs, hl, by unfold StAt; rw [upd_ne (ne hr)]; exact hr⟩
theorem cat_state {H : Hp} {p : Addr} {bs : List Bool} (h : StAt H p bs) (n6 : bs.length ≤ 6) (c : Bool) {Q : VK} (k : ∀ r H4, Same H H4 → StAt H4 r (bs ++ [c]) → Q (.ref r) H4) :
    ∀ z, H z = none → rCatA K (.ref p) (.ref z) (upd H z (.tup [.int (bitI c)])) Q := fun z nz => by
  have h1 : StAt (upd H z (.tup [.int (bitI c)])) p bs := by unfold StAt; rw [upd_ne (ne_of_none h nz)]; exact h
  have sm := sNew (o := .tup [.int (bitI c)]) (Same.refl H) nz
  refine ⟨p, z, _, _, rfl, rfl, SqT.of h1, SqT.of upd_same, small_line (n := (bitV bs).length + 1) (by rw [bitV_len]; omega), fun e => ?_, fun _ e => (nomatch e), fun _ _ r nr => ?_⟩
  · have : bs = [] := List.length_eq_zero_iff.mp (by rw [← bitV_len, e]; rfl)
    subst this
    exact k z _ sm upd_same
  · refine k r _ (sNew sm nr) ?_
    unfold StAt bitV
    rw [upd_same, List.map_append]; rfl
theorem sc__law_all_states : FnScope ["_law_many_here", "_law_states", "_law_k", "_law_state_here"] ["_law_many_here"] (defScope (top 54)) := ⟨rfl, rfl, rfl, by decide +kernel, rfl, by decide +kernel, by decide +kernel⟩
theorem ok_all (T : Free mg) (F : Std K "_law_all_states" "_law_all_states" (top 54) f fd) (hm : mg "_law_all_states" = some (.ref f)) : Cal P w K mg base 1 "_law_all_states" spAll := by
  refine cal_of F hm (fun _ _ _ _ _ _ us hl => match us, hl with | [_], _ => rfl) sc__law_all_states (fun vs H Q E h => ?_) (fun cdv A outer s H vs Q E hr h => ?_)
  · obtain ⟨_, rfl, _⟩ := h; rfl
  · obtain ⟨n, rfl, hn, k⟩ := h
    refine ⟨_, (pss_cons (ps_set (i := 1) sc__law_all_states.nd rfl (.inl rfl) (pe_lst (pa_cons (pe_tup pa_nil) pa_nil)))
        (pss_cons (ps_for PassesOwn.never rfl (pi_range1 (by rfl) T.range (pa_cons (pv 0) pa_nil)) (pg_name (i := 2) sc__law_all_states.nd rfl (.inl rfl)) (pss_one (ps_set (i := 1) sc__law_all_states.nd rfl (.inl rfl) (pe_op op_cat (pe_lc rfl sc__law_all_states.nd (pi_list (pv 1)) (blkOk_by (own := [("_law_state_here", 3)]) (N := ["_law_many_here", "_law_states", "_law_k", "_law_state_here"]) (sc := defScope (top 54)) (by decide +kernel)) (fun _ _ _ _ _ => (pg_name (i := 3) sc__law_all_states.nd rfl (.inl rfl))) (fun _ _ _ _ _ => pts_nil) (fun _ _ _ _ _ => (pe_op (show OpR _ (binaryOp .Add) (rCatA K) from op_catA) (pv 3) (pe_tup (pa_cons pe_int pa_nil))))) (pe_lc rfl sc__law_all_states.nd (pi_list (pv 1)) (blkOk_by (own := [("_law_state_here", 3)]) (N := ["_law_many_here", "_law_states", "_law_k", "_law_state_here"]) (sc := defScope (top 54)) (by decide +kernel)) (fun _ _ _ _ _ => (pg_name (i := 3) sc__law_all_states.nd rfl (.inl rfl))) (fun _ _ _ _ _ => pts_nil) (fun _ _ _ _ _ => (pe_op (show OpR _ (binaryOp .Add) (rCatA K) from op_catA) (pv 3) (pe_tup (pa_cons pe_int pa_nil)))))))))
        (pss_one (ps_ret (pv 1))))), ?_⟩
    refine ⟨Nat.zero_le _, fun p np => ⟨(by show 1 ≤ sizeLine; decide), fun q nq => ?_⟩⟩
    have pq : p ≠ q := ne_of_none upd_same nq
    refine ⟨_, rfl, _, rfl, by omega, by omega, ?_⟩
    refine for_range (lo := 0) (n := n) (fun i σ H' => ∃ (a : Addr) (v2 v3 : Option V), σ = [some (.int (n : Int)), some (.ref a), v2, v3] ∧ Same H H' ∧ H a = none ∧ AllL H' i (2 ^ i) a)
      ⟨q, none, none, rfl, sNew (sNew (Same.refl H) np) nq, (sNew (Same.refl H) np).free nq, [p], rfl, upd_same, fun z hz => ?_⟩ ?_ ?_
    · have : z = p := by simpa using hz
      subst this
      exact ⟨[], rfl, by unfold StAt; rw [upd_ne pq]; exact upd_same⟩
    · rintro i σ H1 hi ⟨a, v2, v3, rfl, sm, na, hA⟩
      have p2 : 2 ^ i ≤ 32 := Nat.pow_le_pow_right (n := 2) (by decide) (show i ≤ 5 by omega)
      obtain ⟨ps, hl, ha, hps⟩ := hA
      have pm : 2 ^ (i + 1) = 2 ^ i + 2 ^ i := by rw [Nat.pow_succ]; omega
      rw [pm]
      generalize 2 ^ i = m at *
      refine ⟨_, rfl, a, rfl, ⟨_, SqL.of ha⟩, fun D nD => ?_⟩
      refine lc_it (walk_list (K := K) (a := a) (xs := ps.map V.ref)) (fun j H' => RowI i H1 D j H') (RowI.zero nD) (fun j H' _ I => SqL.of (I.same _ _ ha)) ?_ ?_
      · rintro j y H2 H3 hj I ⟨rfl, hy⟩
        rw [List.length_map] at hj
        rw [List.getElem?_map] at hy
        cases e : ps[j]? with
        | none => rw [e] at hy; cases hy
        | some p =>
          rw [e] at hy
          cases Option.some.inj hy
          obtain ⟨bs, b1, b2⟩ := hps p (List.mem_of_getElem? e)
          refine ⟨rfl, _, rfl, (by show 1 ≤ sizeLine; decide), cat_state ((b2.same (Same.refl _)).same I.same) (by omega) false fun r H4 sm4 h4 => ?_⟩
          exact I.step nD (by omega) sm4 (by rw [List.length_append, b1]; rfl) h4
      rw [List.length_map]
      rintro H2 I2
      refine ⟨_, rfl, a, rfl, ⟨_, SqL.of (I2.same _ _ ha)⟩, fun D2 nD2 => ?_⟩
      refine lc_it (walk_list (K := K) (a := a) (xs := ps.map V.ref)) (fun j H' => RowI i H2 D2 j H') (RowI.zero nD2) (fun j H' _ I => SqL.of (I.same _ _ (I2.same _ _ ha))) ?_ ?_
      · rintro j y H2 H3 hj I ⟨rfl, hy⟩
        rw [List.length_map] at hj
        rw [List.getElem?_map] at hy
        cases e : ps[j]? with
        | none => rw [e] at hy; cases hy
        | some p =>
          rw [e] at hy
          cases Option.some.inj hy
          obtain ⟨bs, b1, b2⟩ := hps p (List.mem_of_getElem? e)
          refine ⟨rfl, _, rfl, (by show 1 ≤ sizeLine; decide), cat_state ((b2.same I2.same).same I.same) (by omega) true fun r H4 sm4 h4 => ?_⟩
          exact I.step nD2 (by omega) sm4 (by rw [List.length_append, b1]; rfl) h4
      rw [List.length_map]
      rintro H4 I4
      obtain ⟨qs1, q1, q2, q3⟩ := I2.got
      obtain ⟨qs2, r1, r2, r3⟩ := I4.got
      refine ⟨D, D2, _, _, rfl, rfl, I4.same _ _ q2, r2, small_line (n := (qs1.map V.ref).length + (qs2.map V.ref).length) (by rw [List.length_map, List.length_map]; omega), fun z nz => ?_⟩
      have sm4 : Same H1 H4 := I2.same.trans I4.same
      refine ⟨z, _, v3, rfl, sNew (sm.trans sm4) nz, (sm.trans sm4).free nz, qs1 ++ qs2, by rw [List.length_append]; omega, by rw [upd_same, List.map_append], fun p hp => ?_⟩
      rcases List.mem_append.mp hp with h | h
      · obtain ⟨b, h1, h2⟩ := q3 p h
        exact ⟨b, h1, (h2.same I4.same).same (sNew (Same.refl _) nz)⟩
      · obtain ⟨b, h1, h2⟩ := r3 p h
        exact ⟨b, h1, h2.same (sNew (Same.refl _) nz)⟩
    · rintro σ H1 ⟨a, v2, v3, rfl, sm, na, ps, hl, hA, h⟩
      exact ⟨_, rfl, k ps a H1 sm na hA h⟩
end
end Fk

set_option Elab.async false
set_option linter.all false
set_option maxRecDepth 100000
set_option maxHeartbeats 4000000
namespace Fk
open PySem PySem.Spec PyProof.Rows L2
/-! ### lists of pairs of names -/
def PairAt (H : Hp) (z : Addr × Str × Str) : Prop := H z.1 = some (.tup [.str z.2.1, .str z.2.2])
theorem PairAt.same {H H' : Hp} {z : Addr × Str × Str} (h : PairAt H z) (k : Same H H') : PairAt H' z := k _ _ h
def PairsAt (H : Hp) (f : Addr) (zs : List (Addr × Str × Str)) : Prop := H f = some (.lst (zs.map fun z => V.ref z.1)) ∧ ∀ z ∈ zs, PairAt H z
theorem PairsAt.same {H H' : Hp} {f : Addr} {zs : List (Addr × Str × Str)} (h : PairsAt H f zs) (k : Same H H') : PairsAt H' f zs := ⟨k _ _ h.1, fun z hz => (h.2 z hz).same k⟩
section
variable {P : Program} {w : World} {K : PySem.W.Frag} {mg : Str → Option Value} {base : Heap} {f : Addr} {fd : FuncData}
/-! ### _law_some -/
def spSome : Sp := fun vs H Q _ => ∃ (b p : Addr) (m : Int) (zs : List V), vs = [.ref b, .ref p, .int m] ∧ Bx H b ∧ H p = some (.lst zs) ∧ p ≠ b ∧ zs.length ≤ 200 ∧ 0 ≤ m ∧ m ≤ 1000 ∧
  ∀ (ys : List V) q H', (∀ y ∈ ys, y ∈ zs) → But b H H' → Bx H' b → H q = none → H' q = some (.lst ys) → Q (.ref q) H'
theorem sc__law_some : FnScope ["_law_box_here", "_law_pairs", "_law_most", "_law_at"] ["_law_box_here", "_law_pairs", "_law_most"] (defScope (top 57)) := ⟨rfl, rfl, rfl, by decide +kernel, rfl, by decide +kernel, by decide +kernel⟩
theorem ok_some (T : Free mg) (C__law_take : Cal P w K mg base 2 "_law_take" spTake) (F : Std K "_law_some" "_law_some" (top 57) f fd) (hm : mg "_law_some" = some (.ref f)) : Cal P w K mg base 3 "_law_some" spSome := by
  refine cal_of F hm (fun _ _ _ _ _ _ us hl => match us, hl with | [_, _, _], _ => rfl) sc__law_some (fun vs H Q E h => ?_) (fun cdv A outer s H vs Q E hr h => ?_)
  · obtain ⟨_, _, _, _, rfl, _⟩ := h; rfl
  · obtain ⟨b, p, m, zs, rfl, bx, hp, pb, hl, m0, m1, k⟩ := h
    refine ⟨_, (pss_cons (ps_set (i := 3) sc__law_some.nd rfl (.inl rfl) (pe_f C__law_take hr (pa_cons (pv 0) (pa_cons (pe_callB (call_max2 rfl) (by rfl) T.max (by decide +kernel) (pa_cons pe_int (pa_cons (pe_callB call_len_seq (by rfl) T.len (by decide +kernel) (pa_cons (pv 1) pa_nil)) pa_nil))) pa_nil))))
        (pss_one (ps_ret (pe_slice sl_list (pe_op op_cat (pv 1) (pv 1)) (po_some (pv 3)) (po_some (pe_op op_add (pv 3) (pe_callB (call_min2 rfl) (by rfl) T.min (by decide +kernel) (pa_cons (pv 2) (pa_cons (pe_callB call_len_seq (by rfl) T.len (by decide +kernel) (pa_cons (pv 1) pa_nil)) pa_nil))))))))), ?_⟩
    refine ⟨_, rfl, _, rfl, p, _, rfl, .inl (SqL.of hp), _, _, rfl, b, _, rfl, bx, ?_, ?_, fun d H1 d0 d1 bt bx1 => ?_⟩
    · show 0 < if (zs.length : Int) > 1 then (zs.length : Int) else 1
      split <;> omega
    · show (if (zs.length : Int) > 1 then (zs.length : Int) else 1) < _
      split <;> omega
    · have hp1 := bt _ _ pb hp
      refine ⟨_, rfl, _, rfl, p, p, zs, zs, rfl, rfl, hp1, hp1, small_line (n := zs.length + zs.length) (by omega), fun c nc => ?_⟩
      refine ⟨_, rfl, d, rfl, _, rfl, _, rfl, _, rfl, p, zs, rfl, .inl (SqL.of (by rw [upd_ne (ne_of_none hp1 nc)]; exact hp1)), _, _, rfl, _, _, rfl, rfl, _, rfl, c, _, rfl, SqL.of upd_same, fun q nq => ?_⟩
      refine k _ q _ (fun y hy => ?_) ((bt.new nc).new nq) ?_ ((bt.new nc).free ?_ nq) upd_same
      · have := mem_cutV hy
        rcases List.mem_append.mp this with h | h <;> exact h
      · obtain ⟨r, s', t, z⟩ := bx1
        have z2 : (upd H1 c (.lst (zs ++ zs))) b = some (.lst [.int r, .int s', .int t]) := by rw [upd_ne (ne_of_none z nc)]; exact z
        exact ⟨r, s', t, by rw [upd_ne (ne_of_none z2 nq)]; exact z2⟩
      · obtain ⟨r, s', t, z⟩ := bx1
        exact ⟨r, s', t, by rw [upd_ne (ne_of_none z nc)]; exact z⟩
/-! ### _law_is_pairs -/
def spIsPairs : Sp := fun vs H Q _ => ∃ (a d : Addr) (xs ys : List (Addr × Str × Str)), vs = [.ref a, .ref d] ∧ PairsAt H a xs ∧ PairsAt H d ys ∧ xs.map (·.2) = ys.map (·.2) ∧ xs.length ≤ 200 ∧ (∀ z ∈ xs, Low z.2.1 ∧ Low z.2.2) ∧ Q (.bl true) H
theorem pair_dp {H : Hp} {z : Addr × Str × Str} (h : PairAt H z) : Dp K H (.ref z.1) (.tuple [.str z.2.1, .str z.2.2]) := .tup (SqT.of h) (.cons (.str _) (.cons (.str _) .nil))
theorem pair_eq (x y : Str) : PyData.eqv (.tuple [.str x, .str y]) (.tuple [.str x, .str y]) = true := by simp [PyData.eqv, PyData.eqvAll]
theorem low_ok {x : Str} (h : Low x) : PyData.strOk x = true := by
  unfold PyData.strOk
  rw [Array.all_eq_true_iff_forall_mem]
  intro c hc
  have := h c (Array.mem_toList_iff.mpr hc)
  exact decide_eq_true (by omega)
theorem pair_shaped {x y : Str} (hx : Low x) (hy : Low y) : SeqAt.shaped (.tuple [.str x, .str y]) = true := by
  unfold SeqAt.shaped
  simp [PyData.canLay0, PyData.canLayAll0, low_ok hx, low_ok hy, PyData.depth, PyData.depthAll]
theorem sc__law_is_pairs : FnScope ["_law_found", "_law_due", "_law_k"] ["_law_found", "_law_due"] (defScope (top 58)) := ⟨rfl, rfl, rfl, by decide +kernel, rfl, by decide +kernel, by decide +kernel⟩
theorem ok_is_pairs (T : Free mg) (F : Std K "_law_is_pairs" "_law_is_pairs" (top 58) f fd) (hm : mg "_law_is_pairs" = some (.ref f)) : Cal P w K mg base 1 "_law_is_pairs" spIsPairs := by
  refine cal_of F hm (fun _ _ _ _ _ _ us hl => match us, hl with | [_, _], _ => rfl) sc__law_is_pairs (fun vs H Q E h => ?_) (fun cdv A outer s H vs Q E hr h => ?_)
  · obtain ⟨_, _, _, _, rfl, _⟩ := h; rfl
  · obtain ⟨a, d, xs, ys, rfl, ha, hd, hxy, hl, low, k⟩ := h
    have ll : xs.length = ys.length := by
      have := congrArg List.length hxy
      simpa using this
    refine ⟨_, (pss_cons (ps_if (PW.pt (pw_or (pt_not (pt_val (pe_callB call_isi (by rfl) T.isi (by decide +kernel) (pa_cons (pv 0) (pa_cons (pe_bltn (v := .ty "list") (u := .type "list") (by rfl) T.list (by decide +kernel) rfl) pa_nil))))) (pw_or1 (pt_cmpR op_ne (pe_callB call_len_seq (by rfl) T.len (by decide +kernel) (pa_cons (pv 0) pa_nil)) (pe_callB call_len_seq (by rfl) T.len (by decide +kernel) (pa_cons (pv 1) pa_nil)) (nomark _))))) (pss_one (ps_ret pe_bl)) pss_nil)
        (pss_cons (ps_for PassesOwn.never rfl (pi_range1 (by rfl) T.range (pa_cons (pe_callB call_len_seq (by rfl) T.len (by decide +kernel) (pa_cons (pv 1) pa_nil)) pa_nil)) (pg_name (i := 2) sc__law_is_pairs.nd rfl (.inl rfl)) (pss_one (ps_if (PW.pt (pw_or (pt_not (pt_val (pe_callB call_isi (by rfl) T.isi (by decide +kernel) (pa_cons (pe_ix ix_list (pv 0) (pv 2) (fun _ _ => rfl)) (pa_cons (pe_bltn (v := .ty "tuple") (u := .type "tuple") (by rfl) T.tuple (by decide +kernel) rfl) pa_nil))))) (pw_or1 (pt_cmpR (op_neD hr.units) (pe_ix ix_list (pv 0) (pv 2) (fun _ _ => rfl)) (pe_ix ix_list (pv 1) (pv 2) (fun _ _ => rfl)) (nomark _))))) (pss_one (ps_ret pe_bl)) pss_nil)))
        (pss_one (ps_ret pe_bl)))), ?_⟩
    refine ⟨_, rfl, _, _, _, _, _, rfl, .ty _, .base (.lst ha.1), kLL, _, rfl, iteF ?_⟩
    refine ⟨_, rfl, a, _, rfl, .inl (SqL.of ha.1), _, rfl, d, _, rfl, .inl (SqL.of hd.1), rfl, _, rfl, ?_⟩
    refine ite2 (fun c => ?_) (fun _ => ?_)
    · exfalso
      rw [List.length_map, List.length_map, ll, decide_eq_true rfl] at c
      cases c
    refine ⟨_, rfl, d, _, rfl, .inl (SqL.of hd.1), _, rfl, by omega, by rw [List.length_map]; omega, ?_⟩
    refine for_range (lo := 0) (n := (ys.map fun z => V.ref z.1).length) (fun i σ H' => ∃ v, σ = [some (.ref a), some (.ref d), v] ∧ H' = H) ⟨none, rfl, rfl⟩ ?_ ?_
    · rintro i σ H1 hi ⟨v, rfl, rfl⟩
      rw [List.length_map] at hi
      have hx : i < xs.length := by omega
      have gx : atI (xs.map fun z => V.ref z.1) (0 + (i : Int)) = some (.ref xs[i].1) := by
        rw [Int.zero_add]
        refine atI_nat ?_
        rw [List.getElem?_map, List.getElem?_eq_getElem hx]; rfl
      have gy : atI (ys.map fun z => V.ref z.1) (0 + (i : Int)) = some (.ref ys[i].1) := by
        rw [Int.zero_add]
        refine atI_nat ?_
        rw [List.getElem?_map, List.getElem?_eq_getElem hi]; rfl
      have px := ha.2 xs[i] (List.getElem_mem hx)
      have py := hd.2 ys[i] (List.getElem_mem hi)
      have e : xs[i].2 = ys[i].2 := by
        have h1 : (xs.map (·.2))[i]? = some xs[i].2 := by rw [List.getElem?_map, List.getElem?_eq_getElem hx]; rfl
        have h2 : (ys.map (·.2))[i]? = some ys[i].2 := by rw [List.getElem?_map, List.getElem?_eq_getElem hi]; rfl
        rw [hxy, h2] at h1
        exact (Option.some.inj h1).symm
      have lw := low xs[i] (List.getElem_mem hx)
      have dx := pair_dp (K := K) px
      have dy := pair_dp (K := K) py
      rw [← e] at dy
      refine ⟨_, rfl, _, rfl, a, _, _, _, rfl, rfl, SqL.of ha.1, gx, _, _, _, _, _, rfl, .ty _, .base (.tup px), kTT, _, rfl, iteF ?_⟩
      refine ⟨_, rfl, _, rfl, a, _, _, _, rfl, rfl, SqL.of ha.1, gx, _, rfl, _, rfl, d, _, _, _, rfl, rfl, SqL.of hd.1, gy, _, _, dx, dy, pair_shaped lw.1 lw.2, pair_shaped lw.1 lw.2, _, rfl, ?_⟩
      rw [pair_eq]
      exact iteF ⟨_, rfl, rfl⟩
    · rintro σ H1 ⟨v, rfl, rfl⟩
      exact k
end
end Fk

set_option Elab.async false
set_option linter.all false
set_option maxRecDepth 100000
set_option maxHeartbeats 4000000
namespace Fk
open PySem PySem.Spec PyProof.Rows L2
/-- the text's constants -/
structure Cst (mg : Str → Option Value) : Prop where
  letters : ∃ tk, mg "_LETTERS" = some (.str abc tk)
  most : ∃ tk, mg "_MOST_LETTERS" = some (.int 8 tk)
  limit : ∃ tk, mg "LEAF_LIMIT" = some (.int 12 tk)
section
variable {P : Program} {w : World} {K : PySem.W.Frag} {mg : Str → Option Value} {base : Heap} {f : Addr} {fd : FuncData}
/-! ### is_name: of a name -/
def spIsName : Sp := fun vs H Q _ => ∃ (x : Str), vs = [.str x] ∧ Nm x ∧ Q (.bl true) H
theorem sc_is_name : FnScope ["value", "letter"] ["value"] (defScope (top 17)) := ⟨rfl, rfl, rfl, by decide +kernel, rfl, by decide +kernel, by decide +kernel⟩
theorem ok_is_name (T : Free mg) (Z : Cst mg) (F : Std K "is_name" "is_name" (top 17) f fd) (hm : mg "is_name" = some (.ref f)) : Cal P w K mg base 1 "is_name" spIsName := by
  refine cal_of F hm (fun _ _ _ _ _ _ us hl => match us, hl with | [_], _ => rfl) sc_is_name (fun vs H Q E h => ?_) (fun cdv A outer s H vs Q E hr h => ?_)
  · obtain ⟨_, rfl, _⟩ := h; rfl
  · obtain ⟨x, rfl, ⟨n1, n8, low⟩, k⟩ := h
    obtain ⟨tk1, hc_LETTERS⟩ := Z.letters
    obtain ⟨tk2, hc_MOST_LETTERS⟩ := Z.most
    refine ⟨_, (pss_cons (ps_if (pt_not (pt_val (pe_callB call_isi (by rfl) T.isi (by decide +kernel) (pa_cons (pv 0) (pa_cons (pe_bltn (v := .ty "str") (u := .type "str") (by rfl) T.str (by decide +kernel) rfl) pa_nil))))) (pss_one (ps_ret pe_bl)) pss_nil)
        (pss_cons (ps_if (pt_not (pt_chain op_le op_le pe_int (pe_callB call_len_str (by rfl) T.len (by decide +kernel) (pa_cons (pv 0) pa_nil)) (pe_glob (v := .int 8) (by rfl) hc_MOST_LETTERS ⟨_, rfl⟩))) (pss_one (ps_ret pe_bl)) pss_nil)
        (pss_cons (ps_for PassesOwn.never rfl (pi_str (pv 0)) (pg_name (i := 1) sc_is_name.nd rfl (.inl rfl)) (pss_one (ps_if (pt_cmpR op_notIn_sign (pv 1) (pe_glob (v := .str abc) (by rfl) hc_LETTERS ⟨_, rfl⟩) (by rfl)) (pss_one (ps_ret pe_bl)) pss_nil)))
        (pss_one (ps_ret pe_bl))))), ?_⟩
    refine ⟨_, rfl, _, _, _, _, _, rfl, .ty _, .base (.str x), kSS, _, rfl, iteF ?_⟩
    refine ⟨_, rfl, _, rfl, small_line (n := x.length) (by omega), _, _, rfl, rfl, _, rfl, ite2 (fun _ => ?_) (fun c => ?_)⟩
    · refine ⟨_, _, rfl, rfl, _, rfl, ?_⟩
      have e : decide ((x.length : Int) ≤ 8) = true := decide_eq_true (by omega)
      rw [e]
      refine iteF ?_
      refine ⟨_, rfl, x, rfl, ?_⟩
      refine for_it walk_str (fun j σ H' => ∃ v, σ = [some (.str x), v] ∧ H' = H) ⟨none, rfl, rfl⟩ (fun _ _ _ _ _ => trivial) ?_ ?_
      · rintro j y σ H1 H2 hj ⟨v, rfl, rfl⟩ ⟨rfl, c, hc, rfl⟩
        refine ⟨_, rfl, c, abc, rfl, rfl, _, rfl, ?_⟩
        have hm : c ∈ abc.cps.toList := by
          have := low c (by
            have h1 : x.cps.toList[j]? = some c := by rw [Array.getElem?_toList]; exact hc
            exact List.mem_of_getElem? h1)
          rw [abc_list]
          exact List.mem_map.mpr ⟨c - 97, List.mem_range.mpr (by omega), by omega⟩
        rw [decide_eq_true hm]
        exact iteF ⟨_, rfl, rfl⟩
      · rintro σ H1 ⟨v, rfl, rfl⟩
        exact k
    · exact absurd (decide_eq_true (by omega)) c
/-! ### is_below: a mark of 0 and 1, an index -/
def spIsBelow : Sp := fun vs H Q _ => ∃ (i n : Int), vs = [.int i, .int n] ∧ 0 ≤ i ∧ i < n ∧ Q (.bl true) H
theorem sc_is_below : FnScope ["value", "bound"] ["value", "bound"] (defScope (top 29)) := ⟨rfl, rfl, rfl, by decide +kernel, rfl, by decide +kernel, by decide +kernel⟩
theorem ok_is_below (T : Free mg) (F : Std K "is_below" "is_below" (top 29) f fd) (hm : mg "is_below" = some (.ref f)) : Cal P w K mg base 1 "is_below" spIsBelow := by
  refine cal_of F hm (fun _ _ _ _ _ _ us hl => match us, hl with | [_, _], _ => rfl) sc_is_below (fun vs H Q E h => ?_) (fun cdv A outer s H vs Q E hr h => ?_)
  · obtain ⟨_, _, rfl, _⟩ := h; rfl
  · obtain ⟨i, n, rfl, i0, i1, k⟩ := h
    refine ⟨_, (pss_cons (ps_if (PW.pt (pw_or (pt_val (pe_callB call_isi (by rfl) T.isi (by decide +kernel) (pa_cons (pv 0) (pa_cons (pe_bltn (v := .ty "bool") (u := .type "bool") (by rfl) T.bool (by decide +kernel) rfl) pa_nil)))) (pw_or1 (pt_not (pt_val (pe_callB call_isi (by rfl) T.isi (by decide +kernel) (pa_cons (pv 0) (pa_cons (pe_bltn (v := .ty "int") (u := .type "int") (by rfl) T.int (by decide +kernel) rfl) pa_nil)))))))) (pss_one (ps_ret pe_bl)) pss_nil)
        (pss_one (ps_ret (pe_chain op_le op_lt pe_int (pv 0) (pv 1))))), ?_⟩
    refine ⟨_, rfl, _, _, _, _, _, rfl, .ty _, .base (.int i), kIB, _, rfl, iteF ?_⟩
    refine ⟨_, rfl, _, _, _, _, _, rfl, .ty _, .base (.int i), kII, _, rfl, iteF ?_⟩
    refine ⟨_, rfl, _, _, rfl, rfl, _, rfl, ite2 (fun _ => ?_) (fun c => ?_)⟩
    · refine ⟨_, rfl, _, _, rfl, rfl, ?_⟩
      show Q (V.bl (decide (i < n))) H
      rw [decide_eq_true i1]; exact k
    · exact absurd (decide_eq_true i0) c
/-! ### is_tree -/
def szs (ws : List (V × Tr)) : Nat := (ws.map fun p => p.2.size).sum
def seenK (l : List Str) : List (Key × V) := l.map fun x => (kS x, V.bl true)
theorem seenK_keys (l : List Str) : (seenK l).map (·.1) = l.map kS := by
  unfold seenK
  rw [List.map_map]; rfl
theorem stk_pop {p : V × Tr} {ws : List (V × Tr)} : ((p :: ws).map (·.1)).reverse[((p :: ws).map (·.1)).reverse.length - 1]? = some p.1 ∧ ((p :: ws).map (·.1)).reverse.dropLast = (ws.map (·.1)).reverse := by
  rw [List.map_cons, List.reverse_cons]
  refine ⟨?_, List.dropLast_concat⟩
  rw [List.length_append, List.length_singleton, Nat.add_sub_cancel, List.getElem?_append_right (Nat.le_refl _), Nat.sub_self]; rfl
theorem stk_push {x : V} {t : Tr} {ws : List (V × Tr)} : (ws.map (·.1)).reverse ++ [x] = (((x, t) :: ws).map (·.1)).reverse := by rw [List.map_cons, List.reverse_cons]
theorem lvs_cons {p : V × Tr} {ws : List (V × Tr)} : lvs (p :: ws) = p.2.leaves ++ lvs ws := by unfold lvs; rw [List.flatMap_cons]
theorem lvs_len : ∀ ws : List (V × Tr), ws.length ≤ (lvs ws).length
  | [] => Nat.zero_le _
  | p :: ws => by
    have := lvs_len ws
    have := p.2.leaves_pos
    rw [lvs_cons, List.length_append, List.length_cons]; omega
def spIsTree : Sp := fun vs H Q _ => ∃ (v : V) (t : Tr), vs = [v] ∧ TrV H v t ∧ t.leaves.Nodup ∧ t.leaves.length ≤ 12 ∧ (∀ x ∈ t.leaves, Nm x) ∧ ∀ H', Same H H' → Q (.bl true) H'
theorem sc_is_tree : FnScope ["value", "seen", "waiting", "part", "left", "right"] ["value"] (defScope (top 20)) := ⟨rfl, rfl, rfl, by decide +kernel, rfl, by decide +kernel, by decide +kernel⟩
theorem ok_is_tree (T : Free mg) (Z : Cst mg) (C_is_name : Cal P w K mg base 1 "is_name" spIsName) (F : Std K "is_tree" "is_tree" (top 20) f fd) (hm : mg "is_tree" = some (.ref f)) : Cal P w K mg base 2 "is_tree" spIsTree := by
  refine cal_of F hm (fun _ _ _ _ _ _ us hl => match us, hl with | [_], _ => rfl) sc_is_tree (fun vs H Q E h => ?_) (fun cdv A outer s H vs Q E hr h => ?_)
  · obtain ⟨_, _, rfl, _⟩ := h; rfl
  · obtain ⟨v, t, rfl, tv, nd, n12, nms, k⟩ := h
    have hu := hu_of hr
    obtain ⟨tk3, hcLEAF_LIMIT⟩ := Z.limit
    refine ⟨_, (pss_cons (ps_set (i := 1) sc_is_tree.nd rfl (.inl rfl) pe_dnewK)
        (pss_cons (ps_set (i := 2) sc_is_tree.nd rfl (.inl rfl) (pe_lst (pa_cons (pv 0) pa_nil)))
        (pss_cons (ps_while PassesOwn.never (pt_truth (pv 2) (by intro _; rfl)) (pss_cons (ps_set (i := 3) sc_is_tree.nd rfl (.inl rfl) (pe_bm0 PySem.F.plainAttrs_list PySem.F.slot_list_pop PySem.F.type_list_pop mt_pop (pv 2)))
        (pss_one (ps_if (pt_val (pe_callB call_isi (by rfl) T.isi (by decide +kernel) (pa_cons (pv 3) (pa_cons (pe_bltn (v := .ty "tuple") (u := .type "tuple") (by rfl) T.tuple (by decide +kernel) rfl) pa_nil)))) (pss_cons (ps_if (pt_cmpR op_ne (pe_callB call_len_seq (by rfl) T.len (by decide +kernel) (pa_cons (pv 3) pa_nil)) pe_int (nomark _)) (pss_one (ps_ret pe_bl)) pss_nil)
        (pss_cons (ps_asg (pv 3) (pg_tup rfl (pgs_cons (pg_name (i := 4) sc_is_tree.nd rfl (.inl rfl)) (pgs_cons (pg_name (i := 5) sc_is_tree.nd rfl (.inl rfl)) pgs_nil))))
        (pss_cons (ps_expr (pe_bm PySem.F.plainAttrs_list PySem.F.slot_list_append PySem.F.type_list_append mt_append (pv 2) (pa_cons (pv 5) pa_nil)))
        (pss_one (ps_expr (pe_bm PySem.F.plainAttrs_list PySem.F.slot_list_append PySem.F.type_list_append mt_append (pv 2) (pa_cons (pv 4) pa_nil))))))) (pss_one (ps_if (PW.pt (pw_or (pt_not (pt_val (pe_f C_is_name hr (pa_cons (pv 3) pa_nil)))) (pw_or (pt_cmp (pc_din hu (pv 3) (pv 1))) (pw_or1 (pt_cmpR op_eq (pe_callB call_lenD (by rfl) T.len (by decide +kernel) (pa_cons (pv 1) pa_nil)) (pe_glob (v := .int 12) (by rfl) hcLEAF_LIMIT ⟨_, rfl⟩) (nomark _)))))) (pss_one (ps_ret pe_bl)) (pss_one (ps_dput hu (pv 1) (pv 3) pe_bl rfl))))))))
        (pss_one (ps_ret pe_bl))))), ?_⟩
    refine fun sd nsd => ⟨_, rfl, (by show 1 ≤ sizeLine; decide), fun wt nwt => ?_⟩
    have sw : sd ≠ wt := ne_of_none upd_same nwt
    have nwH : H wt = none := (sNew (Same.refl H) nsd).free nwt
    refine ⟨fun m σ H' => ∃ (ws : List (V × Tr)) (sn : List Str) (v3 v4 v5 : Option V), σ = [some v, some (.ref sd), some (.ref wt), v3, v4, v5] ∧ m = szs ws ∧ Same H H' ∧ H' wt = some (.lst (ws.map (·.1)).reverse) ∧ H' sd = some (.dK (seenK sn)) ∧ sn ++ lvs ws = t.leaves ∧ ∀ p ∈ ws, TrV H' p.1 p.2,
      ⟨_, [(v, t)], [], none, none, none, rfl, rfl, sNew (sNew (Same.refl H) nsd) nwt, upd_same, by rw [upd_ne sw]; exact upd_same, by simp [lvs], ?_⟩, ?_⟩
    · intro p hp
      have : p = (v, t) := by simpa using hp
      subst this
      exact tv.mono (Tups.of (sNew (sNew (Same.refl H) nsd) nwt))
    · rintro m σ H1 ⟨ws, sn, v3, v4, v5, rfl, rfl, sm, hwt, hsd, hls, htr⟩
      refine ⟨_, rfl, _, .inl ⟨_, SqL.of hwt, rfl⟩, ?_⟩
      cases ws with
      | nil =>
        exact iteF (k H1 sm)
      | cons p ws =>
        obtain ⟨e1, e2⟩ := stk_pop (p := p) (ws := ws)
        have hne : (!((p :: ws).map (·.1)).reverse.isEmpty) = true := by simp
        rw [hne]
        have wlen : ws.length + 1 ≤ 12 := by
          have h1 := lvs_len (p :: ws)
          have h2 := congrArg List.length hls
          rw [List.length_append] at h2
          rw [List.length_cons] at h1
          omega
        have wtH : ∀ {zs : List V}, Same H (upd H1 wt (.lst zs)) := sOwn sm nwH
        have tpw : ∀ {zs : List V}, Tups H1 (upd H1 wt (.lst zs)) := Tups.lst hwt
        have hsd2 : ∀ {zs : List V}, (upd H1 wt (.lst zs)) sd = some (.dK (seenK sn)) := by intro zs; rw [upd_ne sw]; exact hsd
        have hp := htr p List.mem_cons_self
        have hq : ∀ q ∈ ws, TrV H1 q.1 q.2 := fun q hq => htr q (List.mem_cons_of_mem _ hq)
        obtain ⟨pv, pt⟩ := p
        refine iteT ⟨fun σ' H' => ∃ m', m' < szs ((pv, pt) :: ws) ∧ ∃ (ws : List (V × Tr)) (sn : List Str) (v3 v4 v5 : Option V), σ' = [some v, some (.ref sd), some (.ref wt), v3, v4, v5] ∧ m' = szs ws ∧ Same H H' ∧ H' wt = some (.lst (ws.map (·.1)).reverse) ∧ H' sd = some (.dK (seenK sn)) ∧ sn ++ lvs ws = t.leaves ∧ ∀ p ∈ ws, TrV H' p.1 p.2, fun _ _ h => h, ?_⟩
        refine ⟨_, rfl, .inl ⟨rfl, _, SqL.of hwt⟩, wt, _, pv, rfl, rfl, hwt, e1, ?_⟩
        rw [e2]
        cases hp with
        | leaf x =>
          refine ⟨_, rfl, _, _, _, _, _, rfl, .ty _, .base (.str x), kST, _, rfl, iteF ?_⟩
          have e3 : sn ++ (x :: lvs ws) = t.leaves := by rw [← hls, lvs_cons]; rfl
          have hx : x ∈ t.leaves := by rw [← e3]; simp
          have nx : x ∉ sn := fun h => by
            have h1 := nd
            rw [← e3] at h1
            exact (List.nodup_append.mp h1).2.2 x h x List.mem_cons_self rfl
          have slen : sn.length < 12 := by
            have h2 := congrArg List.length e3
            rw [List.length_append, List.length_cons] at h2
            omega
          have nk : kS x ∉ (seenK sn).map (·.1) := fun h => by
            rw [seenK_keys] at h
            obtain ⟨y, hy, e⟩ := List.mem_map.mp h
            exact nx (by rw [← Sum.inr.inj e]; exact hy)
          refine ⟨_, rfl, x, rfl, nms x hx, _, rfl, iteF ?_⟩
          refine ⟨_, rfl, _, rfl, sd, _, rfl, DGet.k (k := kS x) hsd2, ?_⟩
          rw [valV_none nk]
          refine ⟨_, rfl, iteF ?_⟩
          refine ⟨_, rfl, sd, _, rfl, hsd2, rfl, _, rfl, ite2 (fun c => ?_) (fun _ => ?_)⟩
          · have e := V.int.inj (of_decide_eq_true c)
            unfold seenK at e
            rw [List.length_map] at e
            omega
          · refine ⟨_, rfl, _, rfl, sd, _, rfl, DPut.k (k := kS x) hsd2 (small_line' (by unfold seenK; rw [List.length_map]; omega)), ?_⟩
            rw [put_end _ nk]
            have ss : Same H (upd (upd H1 wt (.lst (ws.map (·.1)).reverse)) sd (.dK (seenK sn ++ [(kS x, .bl true)]))) := sOwn wtH nsd
            refine ⟨_, ?_, ws, sn ++ [x], some (.str x), v4, v5, rfl, rfl, ss, by rw [upd_ne (Ne.symm sw)]; exact upd_same, by rw [upd_same]; unfold seenK; rw [List.map_append]; rfl, by rw [← e3, List.append_assoc]; rfl, fun q hq' => (hq q hq').mono fun b xs e => ?_⟩
            · simp [szs, Tr.size]
            · rw [upd_ne (ne_of e hsd (by intro z; cases z)), upd_ne (ne_of e hwt (by intro z; cases z))]; exact e
        | @fork a u u' l r e hl hr' =>
          have e' : (upd H1 wt (.lst (ws.map (·.1)).reverse)) a = some (.tup [u, u']) := tpw _ _ e
          refine ⟨_, rfl, _, _, _, _, _, rfl, .ty _, .base (.tup e'), kTT, _, rfl, iteT ?_⟩
          refine ⟨_, rfl, a, _, rfl, .inr (SqT.of e'), rfl, _, rfl, iteF ?_⟩
          refine ⟨_, rfl, a, _, rfl, SqT.of e', rfl, _, _, rfl, _, _, rfl, rfl, ?_⟩
          refine ⟨_, rfl, .inl ⟨rfl, _, SqL.of upd_same⟩, _, rfl, wt, _, _, rfl, rfl, upd_same, small_line' (by rw [List.length_reverse, List.length_map]; omega), ?_⟩
          refine ⟨_, rfl, .inl ⟨rfl, _, SqL.of upd_same⟩, _, rfl, wt, _, _, rfl, rfl, upd_same, small_line' (by rw [List.length_append, List.length_reverse, List.length_map]; simp; omega), ?_⟩
          rw [upd_upd, upd_upd, stk_push (t := r), stk_push (t := l)]
          refine ⟨_, ?_, (u, l) :: (u', r) :: ws, sn, _, _, _, rfl, rfl, wtH, upd_same, hsd2, ?_, fun q hq' => ?_⟩
          · simp [szs, Tr.size]; omega
          · rw [← hls, lvs_cons, lvs_cons, lvs_cons]; simp [Tr.leaves]
          · rcases List.mem_cons.mp hq' with h | h
            · subst h; exact hl.mono tpw
            · rcases List.mem_cons.mp h with h | h
              · subst h; exact hr'.mono tpw
              · exact (hq q h).mono tpw
/-! ### check_tree -/
def spCheckTree : Sp := fun vs H Q _ => ∃ (v : V) (t : Tr), vs = [v] ∧ TrV H v t ∧ t.leaves.Nodup ∧ t.leaves.length ≤ 12 ∧ (∀ x ∈ t.leaves, Nm x) ∧ ∀ H', Same H H' → Q .non H'
theorem sc_check_tree : FnScope ["tree"] ["tree"] (defScope (top 21)) := ⟨rfl, rfl, rfl, by decide +kernel, rfl, by decide +kernel, by decide +kernel⟩
theorem ok_check_tree (C_is_tree : Cal P w K mg base 2 "is_tree" spIsTree) (F : Std K "check_tree" "check_tree" (top 21) f fd) (hm : mg "check_tree" = some (.ref f)) : Cal P w K mg base 3 "check_tree" spCheckTree := by
  refine cal_of F hm (fun _ _ _ _ _ _ us hl => match us, hl with | [_], _ => rfl) sc_check_tree (fun vs H Q E h => ?_) (fun cdv A outer s H vs Q E hr h => ?_)
  · obtain ⟨_, _, rfl, _⟩ := h; rfl
  · obtain ⟨v, t, rfl, tv, nd, n12, nms, k⟩ := h
    refine ⟨_, (pss_one (ps_if (pt_not (pt_val (pe_f C_is_tree hr (pa_cons (pv 0) pa_nil)))) (pss_one ps_never) pss_nil)), ?_⟩
    exact ⟨_, rfl, v, t, rfl, tv, nd, n12, nms, fun H1 sm => ⟨_, rfl, iteF (k H1 sm)⟩⟩
/-! ### _spelled, by the height -/
theorem len_cat (x y : Str) : (x ++ y).length = x.length + y.length := str_cat_len x y
def spSpelled (h : Nat) : Sp := fun vs H Q _ => ∃ (v : V) (t : Tr), vs = [v] ∧ TrV H v t ∧ t.height < h ∧ t.leaves.length ≤ 12 ∧ (∀ x ∈ t.leaves, Nm x) ∧ ∀ (z : Str), z.length + 3 ≤ t.leaves.length * 11 → Q (.str z) H
theorem sc__spelled : FnScope ["tree", "left", "right"] ["tree"] (defScope (top 27)) := ⟨rfl, rfl, rfl, by decide +kernel, rfl, by decide +kernel, by decide +kernel⟩
theorem ok_spelled (T : Free mg) (F : Std K "_spelled" "_spelled" (top 27) f fd) (hm : mg "_spelled" = some (.ref f)) : ∀ h : Nat, Cal P w K mg base h "_spelled" (spSpelled h)
  | 0 => cal_no F hm (ps := ["tree"]) (fun _ _ _ _ _ _ us hl => match us, hl with | [_], _ => rfl) fun vs H Q E h => by
    obtain ⟨_, _, _, _, z, _⟩ := h
    exact absurd z (Nat.not_lt_zero _)
  | h + 1 => by
    have C__spelled : Cal P w K mg base h "_spelled" (spSpelled h) := ok_spelled T F hm h
    refine cal_of F hm (fun _ _ _ _ _ _ us hl => match us, hl with | [_], _ => rfl) sc__spelled (fun vs H Q E h => ?_) (fun cdv A outer s H vs Q E hr h => ?_)
    · obtain ⟨_, _, rfl, _⟩ := h; rfl
    · obtain ⟨v, t, rfl, tv, ht, n12, nms, k⟩ := h
      refine ⟨_, (pss_cons (ps_if (pt_not (pt_val (pe_callB call_isi (by rfl) T.isi (by decide +kernel) (pa_cons (pv 0) (pa_cons (pe_bltn (v := .ty "tuple") (u := .type "tuple") (by rfl) T.tuple (by decide +kernel) rfl) pa_nil))))) (pss_one (ps_ret (pv 0))) pss_nil)
        (pss_cons (ps_asg (pv 0) (pg_tup rfl (pgs_cons (pg_name (i := 1) sc__spelled.nd rfl (.inl rfl)) (pgs_cons (pg_name (i := 2) sc__spelled.nd rfl (.inl rfl)) pgs_nil))))
        (pss_one (ps_ret (pe_joined (PJ.cons pe_str (PJ.cons (pe_fmt (pe_f C__spelled hr (pa_cons (pv 1) pa_nil))) (PJ.cons pe_str (PJ.cons (pe_fmt (pe_f C__spelled hr (pa_cons (pv 2) pa_nil))) (PJ.cons pe_str PJ.nil)))))))))), ?_⟩
      cases tv with
      | leaf x =>
        refine ⟨_, rfl, _, _, _, _, _, rfl, .ty _, .base (.str x), kST, _, rfl, iteT ?_⟩
        refine ⟨_, rfl, k x ?_⟩
        have := (nms x (by simp [Tr.leaves])).2.1
        simp [Tr.leaves]; omega
      | @fork a u u' l r e hl hr' =>
        have n2 : l.leaves.length + r.leaves.length ≤ 12 := by simpa [Tr.leaves] using n12
        have h1 : l.height < h := by have := ht; simp only [Tr.height] at this; omega
        have h2 : r.height < h := by have := ht; simp only [Tr.height] at this; omega
        refine ⟨_, rfl, _, _, _, _, _, rfl, .ty _, .base (.tup e), kTT, _, rfl, iteF ?_⟩
        refine ⟨_, rfl, a, _, rfl, SqT.of e, rfl, _, _, rfl, _, _, rfl, rfl, ?_⟩
        have e1 : (Str.empty ++ ("(" : Str)).length = 1 := by decide +kernel
        have e2 : (" " : Str).length = 1 := by decide +kernel
        have e3 : (")" : Str).length = 1 := by decide +kernel
        refine ⟨_, rfl, small_line (by rw [e1]; decide), ?_⟩
        refine ⟨_, rfl, u, l, rfl, hl, h1, by omega, fun x hx => nms x (by simp [Tr.leaves, hx]), fun z1 hz1 => .inl ⟨z1, rfl, small_line (by omega), z1, rfl, ?_, ?_⟩⟩
        · exact small_line (by rw [len_cat, e1]; omega)
        refine ⟨_, rfl, small_line (by rw [len_cat, len_cat, e1, e2]; omega), ?_⟩
        refine ⟨_, rfl, u', r, rfl, hr', h2, by omega, fun x hx => nms x (by simp [Tr.leaves, hx]), fun z2 hz2 => .inl ⟨z2, rfl, small_line (by omega), z2, rfl, ?_, ?_⟩⟩
        · exact small_line (by rw [len_cat, len_cat, len_cat, e1, e2]; omega)
        refine ⟨_, rfl, small_line (by rw [len_cat, len_cat, len_cat, len_cat, e1, e2, e3]; omega), ?_⟩
        refine k _ ?_
        rw [len_cat, len_cat, len_cat, len_cat, e1, e2, e3]
        have : (l.fork r).leaves.length = l.leaves.length + r.leaves.length := by simp [Tr.leaves]
        rw [this, Nat.add_mul]; omega
/-! ### format_tree -/
def spFormat : Sp := fun vs H Q _ => ∃ (v : V) (t : Tr), vs = [v] ∧ TrV H v t ∧ t.leaves.Nodup ∧ t.leaves.length ≤ 12 ∧ (∀ x ∈ t.leaves, Nm x) ∧ ∀ z H', Same H H' → Q (.str z) H'
theorem sc_format_tree : FnScope ["tree"] ["tree"] (defScope (top 26)) := ⟨rfl, rfl, rfl, by decide +kernel, rfl, by decide +kernel, by decide +kernel⟩
theorem ok_format (C_check_tree : Cal P w K mg base 3 "check_tree" spCheckTree) (C__spelled : Cal P w K mg base 12 "_spelled" (spSpelled 12)) (F : Std K "format_tree" "format_tree" (top 26) f fd) (hm : mg "format_tree" = some (.ref f)) : Cal P w K mg base 13 "format_tree" spFormat := by
  refine cal_of F hm (fun _ _ _ _ _ _ us hl => match us, hl with | [_], _ => rfl) sc_format_tree (fun vs H Q E h => ?_) (fun cdv A outer s H vs Q E hr h => ?_)
  · obtain ⟨_, _, rfl, _⟩ := h; rfl
  · obtain ⟨v, t, rfl, tv, nd, n12, nms, k⟩ := h
    refine ⟨_, (pss_cons (ps_expr (pe_f C_check_tree hr (pa_cons (pv 0) pa_nil)))
        (pss_one (ps_ret (pe_f C__spelled hr (pa_cons (pv 0) pa_nil))))), ?_⟩
    refine ⟨_, rfl, v, t, rfl, tv, nd, n12, nms, fun H1 sm => ?_⟩
    exact ⟨_, rfl, v, t, rfl, tv.mono (Tups.of sm), Nat.lt_of_lt_of_le t.height_lt n12, n12, nms, fun z _ => k z H1 sm⟩
end
end Fk

set_option Elab.async false
set_option linter.all false
set_option maxRecDepth 100000
set_option maxHeartbeats 4000000
namespace Fk
open PySem PySem.Spec PyProof.Rows L2
/-! ### a tree's parts, in the order of the text -/
def Tr.pre : Tr → List Bool → List (List Bool × Tr)
  | .leaf x, w => [(w, .leaf x)]
  | .fork l r, w => (w, .fork l r) :: (l.pre (w ++ [false]) ++ r.pre (w ++ [true]))
def isFork : Tr → Bool
  | .leaf _ => false
  | .fork _ _ => true
def preForks (L : List (List Bool × Tr)) : List (List Bool) := (L.filter fun p => isFork p.2).map (·.1)
def wayOf : List Bool × Tr → Option (Str × List Bool)
  | (w, .leaf x) => some (x, w)
  | (_, .fork _ _) => none
def preWays (L : List (List Bool × Tr)) : List (Str × List Bool) := L.filterMap wayOf
theorem pre_forks : ∀ (t : Tr) (w : List Bool), preForks (t.pre w) = t.forks w
  | .leaf x, w => rfl
  | .fork l r, w => by
    have h1 := pre_forks l (w ++ [false])
    have h2 := pre_forks r (w ++ [true])
    unfold preForks at h1 h2 ⊢
    show List.map _ (List.filter _ ((w, Tr.fork l r) :: (l.pre (w ++ [false]) ++ r.pre (w ++ [true])))) = w :: (l.forks (w ++ [false]) ++ r.forks (w ++ [true]))
    rw [List.filter_cons_of_pos (by rfl), List.map_cons, List.filter_append, List.map_append, h1, h2]
theorem pre_ways : ∀ (t : Tr) (w : List Bool), preWays (t.pre w) = t.ways w
  | .leaf x, w => rfl
  | .fork l r, w => by
    have h1 := pre_ways l (w ++ [false])
    have h2 := pre_ways r (w ++ [true])
    unfold preWays at h1 h2 ⊢
    show List.filterMap wayOf ((w, Tr.fork l r) :: (l.pre (w ++ [false]) ++ r.pre (w ++ [true]))) = l.ways (w ++ [false]) ++ r.ways (w ++ [true])
    rw [List.filterMap_cons_none (by rfl), List.filterMap_append, h1, h2]
theorem pre_size : ∀ (t : Tr) (w : List Bool), (t.pre w).length = t.size
  | .leaf x, w => rfl
  | .fork l r, w => by
    simp [Tr.pre, Tr.size, pre_size l, pre_size r]
theorem size_leaves : ∀ t : Tr, t.size + 1 = 2 * t.leaves.length
  | .leaf x => rfl
  | .fork l r => by
    have h1 := size_leaves l
    have h2 := size_leaves r
    simp only [Tr.size, Tr.leaves, List.length_append]; omega
theorem pre_sub : ∀ (t : Tr) (w : List Bool) (p : List Bool × Tr), p ∈ t.pre w → p.1.length ≤ w.length + t.height
  | .leaf x, w, p, h => by
    have : p = (w, .leaf x) := by simpa [Tr.pre] using h
    subst this; simp
  | .fork l r, w, p, h => by
    simp only [Tr.pre, List.mem_cons, List.mem_append] at h
    rcases h with rfl | h | h
    · simp
    · have := pre_sub l _ p h
      simp [Tr.height] at this ⊢; omega
    · have := pre_sub r _ p h
      simp [Tr.height] at this ⊢; omega
/-- a part at its place: the tuple's address, the part's value, the place, the part -/
abbrev SubZ : Type := Addr × V × List Bool × Tr
def SubAt (H : Hp) (z : SubZ) : Prop := H z.1 = some (.tup [.str (enc z.2.2.1), z.2.1]) ∧ TrV H z.2.1 z.2.2.2
theorem SubAt.mono {H H' : Hp} {z : SubZ} (h : SubAt H z) (k : Tups H H') : SubAt H' z := ⟨k _ _ h.1, h.2.mono k⟩
def SubsAt (H : Hp) (f : Addr) (zs : List SubZ) : Prop := H f = some (.lst (zs.map fun z => V.ref z.1)) ∧ ∀ z ∈ zs, SubAt H z
theorem SubsAt.same {H H' : Hp} {f : Addr} {zs : List SubZ} (h : SubsAt H f zs) (k : Same H H') : SubsAt H' f zs := ⟨k _ _ h.1, fun z hz => (h.2 z hz).mono (Tups.of k)⟩
theorem empty_cat (x : Str) : Str.empty ++ x = x := by
  refine str_ext ?_
  rw [str_cat]; rfl
section
variable {P : Program} {w : World} {K : PySem.W.Frag} {mg : Str → Option Value} {base : Heap} {f : Addr} {fd : FuncData}
/-! ### subtrees_of -/
def spSubs : Sp := fun vs H Q _ => ∃ (v : V) (t : Tr), vs = [v] ∧ TrV H v t ∧ t.leaves.length ≤ 12 ∧ ∀ (zs : List SubZ) a H', zs.map (·.2.2) = t.pre [] → Same H H' → H a = none → SubsAt H' a zs → Q (.ref a) H'
def wsPre (ws : List SubZ) : List (List Bool × Tr) := ws.flatMap fun z => z.2.2.2.pre z.2.2.1
theorem sc_subtrees_of : FnScope ["tree", "found", "waiting", "place", "part", "left", "right"] ["tree"] (defScope (top 22)) := ⟨rfl, rfl, rfl, by decide +kernel, rfl, by decide +kernel, by decide +kernel⟩
theorem ok_subtrees (T : Free mg) (F : Std K "subtrees_of" "subtrees_of" (top 22) f fd) (hm : mg "subtrees_of" = some (.ref f)) : Cal P w K mg base 1 "subtrees_of" spSubs := by
  refine cal_of F hm (fun _ _ _ _ _ _ us hl => match us, hl with | [_], _ => rfl) sc_subtrees_of (fun vs H Q E h => ?_) (fun cdv A outer s H vs Q E hr h => ?_)
  · obtain ⟨_, _, rfl, _⟩ := h; rfl
  · obtain ⟨v, t, rfl, tv, n12, k⟩ := h
    refine ⟨_, (pss_cons (ps_set (i := 1) sc_subtrees_of.nd rfl (.inl rfl) (pe_lst pa_nil))
        (pss_cons (ps_set (i := 2) sc_subtrees_of.nd rfl (.inl rfl) (pe_lst (pa_cons (pe_tup (pa_cons pe_str (pa_cons (pv 0) pa_nil))) pa_nil)))
        (pss_cons (ps_while PassesOwn.never (pt_truth (pv 2) (by intro _; rfl)) (pss_cons (ps_asg (pe_bm0 PySem.F.plainAttrs_list PySem.F.slot_list_pop PySem.F.type_list_pop mt_pop (pv 2)) (pg_tup rfl (pgs_cons (pg_name (i := 3) sc_subtrees_of.nd rfl (.inl rfl)) (pgs_cons (pg_name (i := 4) sc_subtrees_of.nd rfl (.inl rfl)) pgs_nil))))
        (pss_cons (ps_expr (pe_bm PySem.F.plainAttrs_list PySem.F.slot_list_append PySem.F.type_list_append mt_append (pv 1) (pa_cons (pe_tup (pa_cons (pv 3) (pa_cons (pv 4) pa_nil))) pa_nil)))
        (pss_one (ps_if (pt_val (pe_callB call_isi (by rfl) T.isi (by decide +kernel) (pa_cons (pv 4) (pa_cons (pe_bltn (v := .ty "tuple") (u := .type "tuple") (by rfl) T.tuple (by decide +kernel) rfl) pa_nil)))) (pss_cons (ps_asg (pv 4) (pg_tup rfl (pgs_cons (pg_name (i := 5) sc_subtrees_of.nd rfl (.inl rfl)) (pgs_cons (pg_name (i := 6) sc_subtrees_of.nd rfl (.inl rfl)) pgs_nil))))
        (pss_cons (ps_expr (pe_bm PySem.F.plainAttrs_list PySem.F.slot_list_append PySem.F.type_list_append mt_append (pv 2) (pa_cons (pe_tup (pa_cons (pe_joined (PJ.cons (pe_fmt (pv 3)) (PJ.cons pe_str PJ.nil))) (pa_cons (pv 6) pa_nil))) pa_nil)))
        (pss_one (ps_expr (pe_bm PySem.F.plainAttrs_list PySem.F.slot_list_append PySem.F.type_list_append mt_append (pv 2) (pa_cons (pe_tup (pa_cons (pe_joined (PJ.cons (pe_fmt (pv 3)) (PJ.cons pe_str PJ.nil))) (pa_cons (pv 5) pa_nil))) pa_nil)))))) pss_nil)))))
        (pss_one (ps_ret (pv 1)))))), ?_⟩
    refine ⟨Nat.zero_le _, fun fa nfa => ?_⟩
    refine ⟨_, rfl, (by show 2 ≤ sizeLine; decide), fun p np => ⟨(by show 1 ≤ sizeLine; decide), fun wt nwt => ?_⟩⟩
    have sm0 : Same H (upd (upd (upd H fa (.lst [])) p (.tup [.str "", v])) wt (.lst [.ref p])) := sNew (sNew (sNew (Same.refl H) nfa) np) nwt
    have nwH : H wt = none := (sNew (sNew (Same.refl H) nfa) np).free nwt
    have fw : fa ≠ wt := ne_of_none (by rw [upd_ne (ne_of_none upd_same np)]; exact upd_same) nwt
    have fp : fa ≠ p := ne_of_none upd_same np
    have pw : p ≠ wt := ne_of_none upd_same nwt
    refine ⟨fun m σ H' => ∃ (ws zs : List SubZ) (v3 v4 v5 v6 : Option V), σ = [some v, some (.ref fa), some (.ref wt), v3, v4, v5, v6] ∧ m = (wsPre ws).length ∧ Same H H' ∧ H' wt = some (.lst (ws.map fun z => V.ref z.1).reverse) ∧ (∀ z ∈ ws, SubAt H' z) ∧ SubsAt H' fa zs ∧ zs.map (·.2.2) ++ wsPre ws = t.pre [],
      ⟨_, [(p, v, [], t)], [], none, none, none, none, rfl, rfl, sm0, upd_same, fun z hz => ?_, ⟨by rw [upd_ne fw, upd_ne fp]; exact upd_same, fun z hz => nomatch hz⟩, by simp [wsPre]⟩, ?_⟩
    · have : z = (p, v, [], t) := by simpa using hz
      subst this
      exact ⟨by rw [upd_ne pw, enc_nil]; exact upd_same, tv.mono (Tups.of sm0)⟩
    · rintro m σ H1 ⟨ws, zs, v3, v4, v5, v6, rfl, rfl, sm, hwt, hws, hzs, hall⟩
      refine ⟨_, rfl, _, .inl ⟨_, SqL.of hwt, rfl⟩, ?_⟩
      cases ws with
      | nil =>
        refine iteF ⟨_, rfl, ?_⟩
        refine k zs fa H1 ?_ sm nfa hzs
        simpa [wsPre] using hall
      | cons z ws =>
        obtain ⟨za, zv, zw, zt⟩ := z
        have hrev : (((za, zv, zw, zt) :: ws).map fun z => V.ref z.1).reverse = (ws.map fun z => V.ref z.1).reverse ++ [.ref za] := by rw [List.map_cons, List.reverse_cons]
        rw [hrev] at hwt ⊢
        have hz := hws _ List.mem_cons_self
        have hq : ∀ q ∈ ws, SubAt H1 q := fun q hq => hws q (List.mem_cons_of_mem _ hq)
        have hcount : zs.length + (wsPre ((za, zv, zw, zt) :: ws)).length = t.size := by
          have := congrArg List.length hall
          rw [List.length_append, List.length_map, pre_size] at this
          exact this
        have tsz := size_leaves t
        have wsl : ∀ us : List SubZ, us.length ≤ (wsPre us).length := by
          intro us
          induction us with
          | nil => exact Nat.zero_le _
          | cons u us ih =>
            have : 0 < (u.2.2.2.pre u.2.2.1).length := by cases h : u.2.2.2 <;> simp [Tr.pre]
            have e : wsPre (u :: us) = u.2.2.2.pre u.2.2.1 ++ wsPre us := rfl
            rw [e, List.length_append, List.length_cons]; omega
        have hwl := wsl ((za, zv, zw, zt) :: ws)
        rw [List.length_cons] at hwl
        have epre : wsPre ((za, zv, zw, zt) :: ws) = zt.pre zw ++ wsPre ws := rfl
        have hwlen : zw.length ≤ 11 := by
          have hmem : (zw, zt) ∈ t.pre [] := by
            rw [← hall, epre]
            refine List.mem_append_right _ (List.mem_append_left _ ?_)
            cases zt <;> simp [Tr.pre]
          have := pre_sub t [] _ hmem
          have h3 := t.height_lt
          simp at this; omega
        have hne : (!((ws.map fun z => V.ref z.1).reverse ++ [V.ref za]).isEmpty) = true := by simp
        rw [hne]
        refine iteT ⟨fun σ' H' => ∃ m', m' < (wsPre ((za, zv, zw, zt) :: ws)).length ∧ ∃ (ws zs : List SubZ) (v3 v4 v5 v6 : Option V), σ' = [some v, some (.ref fa), some (.ref wt), v3, v4, v5, v6] ∧ m' = (wsPre ws).length ∧ Same H H' ∧ H' wt = some (.lst (ws.map fun z => V.ref z.1).reverse) ∧ (∀ z ∈ ws, SubAt H' z) ∧ SubsAt H' fa zs ∧ zs.map (·.2.2) ++ wsPre ws = t.pre [], fun _ _ h => h, ?_⟩
        have e1 : ((ws.map fun z => V.ref z.1).reverse ++ [V.ref za])[((ws.map fun z => V.ref z.1).reverse ++ [V.ref za]).length - 1]? = some (.ref za) := by
          rw [List.length_append, List.length_singleton, Nat.add_sub_cancel, List.getElem?_append_right (Nat.le_refl _), Nat.sub_self]; rfl
        refine ⟨_, rfl, .inl ⟨rfl, _, SqL.of hwt⟩, wt, _, .ref za, rfl, rfl, hwt, e1, ?_⟩
        rw [List.dropLast_concat]
        -- what stands goes on standing
        have s1 : ∀ {zs : List V}, Same H (upd H1 wt (.lst zs)) := sOwn sm nwH
        have tp1 : ∀ {zs : List V}, Tups H1 (upd H1 wt (.lst zs)) := Tups.lst hwt
        have h2 : SubAt (upd H1 wt (.lst (ws.map fun z => V.ref z.1).reverse)) (za, zv, zw, zt) := hz.mono tp1
        have hfa2 : (upd H1 wt (.lst (ws.map fun z => V.ref z.1).reverse)) fa = some (.lst (zs.map fun z => V.ref z.1)) := by rw [upd_ne fw]; exact hzs.1
        refine ⟨za, _, rfl, SqT.of h2.1, rfl, _, _, rfl, _, _, rfl, rfl, ?_⟩
        refine ⟨_, rfl, .inl ⟨rfl, _, SqL.of hfa2⟩, _, rfl, _, rfl, (by show 2 ≤ sizeLine; decide), fun q nq => ?_⟩
        have qfa : fa ≠ q := ne_of_none hfa2 nq
        have qwt : wt ≠ q := ne_of_none upd_same nq
        refine ⟨fa, _, _, rfl, rfl, (by rw [upd_ne qfa]; exact hfa2), small_line' (by rw [List.length_map]; omega), ?_⟩
        have hwt3 : (upd (upd (upd H1 wt (.lst (ws.map fun z => V.ref z.1).reverse)) q (.tup [.str (enc zw), zv])) fa (.lst ((zs.map fun z => V.ref z.1) ++ [.ref q]))) wt = some (.lst (ws.map fun z => V.ref z.1).reverse) := by rw [upd_ne (Ne.symm fw), upd_ne qwt]; exact upd_same
        have tp3 : Tups H1 (upd (upd (upd H1 wt (.lst (ws.map fun z => V.ref z.1).reverse)) q (.tup [.str (enc zw), zv])) fa (.lst ((zs.map fun z => V.ref z.1) ++ [.ref q]))) := (tp1.trans (Tups.new nq)).trans (Tups.lst (by rw [upd_ne qfa]; exact hfa2))
        have s3 : Same H (upd (upd (upd H1 wt (.lst (ws.map fun z => V.ref z.1).reverse)) q (.tup [.str (enc zw), zv])) fa (.lst ((zs.map fun z => V.ref z.1) ++ [.ref q]))) := sOwn (sNew s1 nq) nfa
        have hf3 : SubsAt (upd (upd (upd H1 wt (.lst (ws.map fun z => V.ref z.1).reverse)) q (.tup [.str (enc zw), zv])) fa (.lst ((zs.map fun z => V.ref z.1) ++ [.ref q]))) fa (zs ++ [(q, zv, zw, zt)]) := ⟨by rw [upd_same, List.map_append]; rfl, fun z hz' => by
          rcases List.mem_append.mp hz' with h | h
          · exact (hzs.2 z h).mono tp3
          · have : z = (q, zv, zw, zt) := by simpa using h
            subst this
            exact ⟨by rw [upd_ne (Ne.symm qfa)]; exact upd_same, hz.2.mono tp3⟩⟩
        generalize (upd (upd (upd H1 wt (.lst (ws.map fun z => V.ref z.1).reverse)) q (.tup [.str (enc zw), zv])) fa (.lst ((zs.map fun z => V.ref z.1) ++ [.ref q]))) = H3 at *
        have hall3 : (zs ++ [(q, zv, zw, zt)]).map (·.2.2) ++ (zt.pre zw).tail ++ wsPre ws = t.pre [] := by
          rw [← hall, epre, List.map_append, List.append_assoc, List.append_assoc]
          cases zt <;> rfl
        have hz3 := hz.2.mono tp3
        have hq3 : ∀ q ∈ ws, SubAt H3 q := fun u hu => (hq u hu).mono tp3
        cases hz3 with
        | leaf x =>
          refine ⟨_, rfl, _, _, _, _, _, rfl, .ty _, .base (.str x), kST, _, rfl, iteF ?_⟩
          refine ⟨_, ?_, ws, zs ++ [(q, .str x, zw, .leaf x)], _, _, v5, v6, rfl, rfl, s3, hwt3, hq3, hf3, ?_⟩
          · rw [epre, List.length_append]; simp [Tr.pre]
          · rw [← hall3]; simp [Tr.pre]
        | @fork a u u' l r e hl hr' =>
          refine ⟨_, rfl, _, _, _, _, _, rfl, .ty _, .base (.tup e), kTT, _, rfl, iteT ?_⟩
          refine ⟨_, rfl, a, _, rfl, SqT.of e, rfl, _, _, rfl, _, _, rfl, rfl, ?_⟩
          have f1 : ((Str.empty ++ enc zw) ++ ("1" : Str)) = enc (zw ++ [true]) := by rw [empty_cat, enc_snoc1]
          have f0 : ((Str.empty ++ enc zw) ++ ("0" : Str)) = enc (zw ++ [false]) := by rw [empty_cat, enc_snoc0]
          have z0 : (enc zw).length ≤ sizeLine := small_line (by rw [enc_len]; omega)
          have z1 : ((Str.empty ++ enc zw) ++ ("1" : Str)).length ≤ sizeLine := small_line (by rw [f1, enc_len, List.length_append, List.length_singleton]; omega)
          have z2 : ((Str.empty ++ enc zw) ++ ("0" : Str)).length ≤ sizeLine := small_line (by rw [f0, enc_len, List.length_append, List.length_singleton]; omega)
          have z3 : (Str.empty ++ enc zw).length ≤ sizeLine := by rw [empty_cat]; exact z0
          refine ⟨_, rfl, .inl ⟨rfl, _, SqL.of hwt3⟩, _, rfl, .inl ⟨_, rfl, z0, _, rfl, z3, _, rfl, z1, _, rfl, (by show 2 ≤ sizeLine; decide), fun r1 n1 => ?_⟩⟩
          rw [f1]
          have w1 : wt ≠ r1 := ne_of_none hwt3 n1
          refine ⟨wt, _, _, rfl, rfl, (by rw [upd_ne w1]; exact hwt3), small_line' (by rw [List.length_reverse, List.length_map]; omega), ?_⟩
          refine ⟨_, rfl, .inl ⟨rfl, _, SqL.of upd_same⟩, _, rfl, .inl ⟨_, rfl, z0, _, rfl, z3, _, rfl, z2, _, rfl, (by show 2 ≤ sizeLine; decide), fun r2 n2 => ?_⟩⟩
          rw [f0]
          have w2 : wt ≠ r2 := ne_of_none upd_same n2
          refine ⟨wt, _, _, rfl, rfl, (by rw [upd_ne w2]; exact upd_same), small_line' (by rw [List.length_append, List.length_reverse, List.length_map]; simp; omega), ?_⟩
          have r12 : r1 ≠ r2 := ne_of_none (by rw [upd_ne (Ne.symm w1)]; exact upd_same) n2
          have tpA : Tups H3 (upd (upd H3 r1 (.tup [.str (enc (zw ++ [true])), u'])) wt (.lst ((ws.map fun z => V.ref z.1).reverse ++ [.ref r1]))) := (Tups.new n1).trans (Tups.lst (by rw [upd_ne w1]; exact hwt3))
          have tpB := (tpA.trans (Tups.new (o := .tup [.str (enc (zw ++ [false])), u]) n2)).trans (Tups.lst (ys := ((ws.map fun z => V.ref z.1).reverse ++ [.ref r1]) ++ [.ref r2]) (by rw [upd_ne w2]; exact upd_same))
          have fa1 : fa ≠ r1 := ne_of_none hf3.1 n1
          have fa2 : fa ≠ r2 := ne_of_none (by rw [upd_ne fw, upd_ne fa1]; exact hf3.1) n2
          refine ⟨_, ?_, (r2, u, zw ++ [false], l) :: (r1, u', zw ++ [true], r) :: ws, zs ++ [(q, .ref a, zw, .fork l r)], _, _, _, _, rfl, rfl, sOwn (sNew (sOwn (sNew s3 n1) nwH) n2) nwH, ?_, fun z hz' => ?_, ⟨by rw [upd_ne fw, upd_ne fa2, upd_ne fw, upd_ne fa1]; exact hf3.1, fun z h => (hf3.2 z h).mono tpB⟩, ?_⟩
          · simp [wsPre, Tr.pre]
          · rw [upd_same]; simp
          · rcases List.mem_cons.mp hz' with h | h
            · subst h
              exact ⟨by rw [upd_ne (Ne.symm w2)]; exact upd_same, hl.mono tpB⟩
            · rcases List.mem_cons.mp h with h | h
              · subst h
                exact ⟨by rw [upd_ne (Ne.symm w1), upd_ne r12, upd_ne (Ne.symm w1)]; exact upd_same, hr'.mono tpB⟩
              · exact (hq3 z h).mono tpB
          · rw [← hall3]; simp [wsPre, Tr.pre]
end
end Fk

set_option Elab.async false
set_option linter.all false
set_option maxRecDepth 100000
set_option maxHeartbeats 4000000
namespace Fk
open PySem PySem.Spec PyProof.Rows L2
theorem preWays_append (a b : List (List Bool × Tr)) : preWays (a ++ b) = preWays a ++ preWays b := List.filterMap_append
theorem preForks_append (a b : List (List Bool × Tr)) : preForks (a ++ b) = preForks a ++ preForks b := by
  unfold preForks
  rw [List.filter_append, List.map_append]
theorem refs_at {zs : List SubZ} {i : Nat} {y : V} (h : (zs.map fun z => V.ref z.1)[i]? = some y) : ∃ z, zs[i]? = some z ∧ y = .ref z.1 := by
  rw [List.getElem?_map] at h
  cases e : zs[i]? with
  | none => rw [e] at h; cases h
  | some z => rw [e] at h; exact ⟨z, rfl, (Option.some.inj h).symm⟩
theorem take_snoc {α : Type} {l : List α} {i : Nat} {z : α} (h : l[i]? = some z) : l.take (i + 1) = l.take i ++ [z] := by rw [List.take_add_one, h]; rfl
section
variable {P : Program} {w : World} {K : PySem.W.Frag} {mg : Str → Option Value} {base : Heap} {f : Addr} {fd : FuncData}
/-! ### ways_of -/
def spWaysOf : Sp := fun vs H Q _ => ∃ (v : V) (t : Tr), vs = [v] ∧ TrV H v t ∧ t.leaves.Nodup ∧ t.leaves.length ≤ 12 ∧ (∀ x ∈ t.leaves, Nm x) ∧ ∀ a H', Same H H' → H a = none → H' a = some (.dK (wayK (t.ways []))) → Q (.ref a) H'
theorem sc_ways_of : FnScope ["tree", "ways", "place", "part"] ["tree"] (defScope (top 23)) := ⟨rfl, rfl, rfl, by decide +kernel, rfl, by decide +kernel, by decide +kernel⟩
theorem ok_ways_of (T : Free mg) (C_check_tree : Cal P w K mg base 3 "check_tree" spCheckTree) (C_subtrees_of : Cal P w K mg base 1 "subtrees_of" spSubs) (F : Std K "ways_of" "ways_of" (top 23) f fd) (hm : mg "ways_of" = some (.ref f)) : Cal P w K mg base 4 "ways_of" spWaysOf := by
  refine cal_of F hm (fun _ _ _ _ _ _ us hl => match us, hl with | [_], _ => rfl) sc_ways_of (fun vs H Q E h => ?_) (fun cdv A outer s H vs Q E hr h => ?_)
  · obtain ⟨_, _, rfl, _⟩ := h; rfl
  · obtain ⟨v, t, rfl, tv, nd, n12, nms, k⟩ := h
    have hu := hu_of hr
    refine ⟨_, (pss_cons (ps_expr (pe_f C_check_tree hr (pa_cons (pv 0) pa_nil)))
        (pss_cons (ps_set (i := 1) sc_ways_of.nd rfl (.inl rfl) pe_dnewK)
        (pss_cons (ps_for PassesOwn.never rfl (pi_list (pe_f C_subtrees_of hr (pa_cons (pv 0) pa_nil))) (pg_tup rfl (pgs_cons (pg_name (i := 2) sc_ways_of.nd rfl (.inl rfl)) (pgs_cons (pg_name (i := 3) sc_ways_of.nd rfl (.inl rfl)) pgs_nil))) (pss_one (ps_if (pt_not (pt_val (pe_callB call_isi (by rfl) T.isi (by decide +kernel) (pa_cons (pv 3) (pa_cons (pe_bltn (v := .ty "tuple") (u := .type "tuple") (by rfl) T.tuple (by decide +kernel) rfl) pa_nil))))) (pss_one (ps_dput hu (pv 1) (pv 3) (pv 2) rfl)) pss_nil)))
        (pss_one (ps_ret (pv 1)))))), ?_⟩
    refine ⟨_, rfl, v, t, rfl, tv, nd, n12, nms, fun H1 sm1 wd nwd => ?_⟩
    have nwH : H wd = none := sm1.free nwd
    have sm2 : Same H (upd H1 wd (.dK [])) := sNew sm1 nwd
    refine ⟨_, rfl, v, t, rfl, tv.mono (Tups.of sm2), n12, fun zs a H2 hpre sm3 na hs => ?_⟩
    have sm4 := sm2.trans sm3
    have h2 : H2 wd = some (.dK []) := sm3 _ _ upd_same
    have wa : wd ≠ a := fun e => by rw [e, hs.1] at h2; cases h2
    refine ⟨_, rfl, ⟨_, SqL.of hs.1⟩, ?_⟩
    refine for_list (K := K) (a := a) (xs := zs.map fun z => V.ref z.1) (fun i σ H' => ∃ (v2 v3 : Option V), σ = [some v, some (.ref wd), v2, v3] ∧ Same H H' ∧ SubsAt H' a zs ∧ H' wd = some (.dK (wayK (preWays ((zs.take i).map (·.2.2))))))
      ⟨none, none, rfl, sm4, hs, h2⟩ (fun i σ H' _ ⟨_, _, _, _, h, _⟩ => SqL.of h.1) ?_ ?_
    · rintro i y σ H3 hi ⟨v2, v3, rfl, sm, hs, hd⟩
      obtain ⟨z, hz, rfl⟩ := refs_at hi
      have hmem := List.mem_of_getElem? hz
      obtain ⟨za, zv, zw, zt⟩ := z
      have hz1 := hs.2 _ hmem
      refine ⟨za, _, rfl, SqT.of hz1.1, rfl, _, _, rfl, _, _, rfl, rfl, ?_⟩
      have e1 : (zs.take (i + 1)).map (·.2.2) = (zs.take i).map (·.2.2) ++ [(zw, zt)] := by rw [take_snoc hz, List.map_append]; rfl
      have hz2 := hz1.2
      cases hz2 with
      | @fork a' u u' l r e hl hr' =>
        refine ⟨_, rfl, _, _, _, _, _, rfl, .ty _, .base (.tup e), kTT, _, rfl, iteF ?_⟩
        refine ⟨_, _, rfl, sm, hs, ?_⟩
        rw [e1, preWays_append]
        have : preWays [(zw, Tr.fork l r)] = [] := rfl
        rw [this, List.append_nil]; exact hd
      | leaf x =>
        refine ⟨_, rfl, _, _, _, _, _, rfl, .ty _, .base (.str x), kST, _, rfl, iteT ?_⟩
        have e2 : preWays ((zs.take (i + 1)).map (·.2.2)) = preWays ((zs.take i).map (·.2.2)) ++ [(x, zw)] := by rw [e1, preWays_append]; rfl
        have e3 : preWays ((zs.take (i + 1)).map (·.2.2)) ++ preWays ((zs.drop (i + 1)).map (·.2.2)) = t.ways [] := by
          rw [← preWays_append, ← List.map_append, List.take_append_drop, hpre, pre_ways]
        have hn : (t.ways []).map (·.1) = t.leaves := t.ways_names []
        rw [← e3, e2, List.append_assoc, List.map_append] at hn
        have nk : kS x ∉ (wayK (preWays ((zs.take i).map (·.2.2)))).map (·.1) := fun h => by
          rw [wayK_keys] at h
          obtain ⟨y, hy, e⟩ := List.mem_map.mp h
          have e : y = x := Sum.inr.inj e
          subst e
          rw [← hn] at nd
          exact (List.nodup_append.mp nd).2.2 y hy y (by simp) rfl
        have hlen : (wayK (preWays ((zs.take i).map (·.2.2)))).length ≤ 100 := by
          unfold wayK
          rw [List.length_map]
          have := congrArg List.length hn
          rw [List.length_append, List.length_map] at this
          omega
        refine ⟨_, rfl, _, rfl, _, rfl, wd, _, rfl, DPut.k (k := kS x) hd (small_line' (by omega)), ?_⟩
        rw [put_end _ nk]
        refine ⟨_, _, rfl, sOwn sm nwH, ⟨by rw [upd_ne (Ne.symm wa)]; exact hs.1, fun z h => (hs.2 z h).mono fun b xs e => by rw [upd_ne (ne_of e hd (by intro z; cases z))]; exact e⟩, ?_⟩
        rw [upd_same, e2]; unfold wayK; rw [List.map_append]; rfl
    · rintro σ H3 ⟨v2, v3, rfl, sm, hs, hd⟩
      refine ⟨_, rfl, k wd H3 sm nwH ?_⟩
      rw [hd, List.length_map, List.take_length, hpre, pre_ways]
/-! ### forks_of -/
def spForksOf : Sp := fun vs H Q _ => ∃ (v : V) (t : Tr), vs = [v] ∧ TrV H v t ∧ t.leaves.Nodup ∧ t.leaves.length ≤ 12 ∧ (∀ x ∈ t.leaves, Nm x) ∧ ∀ a H', Same H H' → H a = none → H' a = some (.lst ((t.forks []).map fun F => V.str (enc F))) → Q (.ref a) H'
theorem sc_forks_of : FnScope ["tree", "place", "part"] ["tree"] (defScope (top 24)) := ⟨rfl, rfl, rfl, by decide +kernel, rfl, by decide +kernel, by decide +kernel⟩
theorem ok_forks_of (T : Free mg) (C_check_tree : Cal P w K mg base 3 "check_tree" spCheckTree) (C_subtrees_of : Cal P w K mg base 1 "subtrees_of" spSubs) (F : Std K "forks_of" "forks_of" (top 24) f fd) (hm : mg "forks_of" = some (.ref f)) : Cal P w K mg base 4 "forks_of" spForksOf := by
  refine cal_of F hm (fun _ _ _ _ _ _ us hl => match us, hl with | [_], _ => rfl) sc_forks_of (fun vs H Q E h => ?_) (fun cdv A outer s H vs Q E hr h => ?_)
  · obtain ⟨_, _, rfl, _⟩ := h; rfl
  · obtain ⟨v, t, rfl, tv, nd, n12, nms, k⟩ := h
    refine ⟨_, (pss_cons (ps_expr (pe_f C_check_tree hr (pa_cons (pv 0) pa_nil)))
        (pss_one (ps_ret (pe_lc rfl sc_forks_of.nd (pi_list (pe_f C_subtrees_of hr (pa_cons (pv 0) pa_nil))) (blkOk_by (own := [("place", 1), ("part", 2)]) (N := ["tree", "place", "part"]) (sc := defScope (top 24)) (by decide +kernel)) (fun _ _ _ _ _ => (pg_tupK (K := K) (n := 2) rfl rfl (pgs_cons (pg_name (i := 1) sc_forks_of.nd rfl (.inl rfl)) (pgs_cons (pg_name (i := 2) sc_forks_of.nd rfl (.inl rfl)) pgs_nil)))) (fun _ _ _ _ _ => (pts_one (pt_val (pe_callB (show CallR _ _ (rIsi K) from call_isi) (by rfl) T.isi (by decide +kernel) (pa_cons (pv 2) (pa_cons (pe_bltn (v := .ty "tuple") (u := .type "tuple") (by rfl) T.tuple (by decide +kernel) rfl) pa_nil)))))) (fun _ _ _ _ _ => (pv 1)))))), ?_⟩
    refine ⟨_, rfl, v, t, rfl, tv, nd, n12, nms, fun H1 sm1 => ?_⟩
    refine ⟨_, rfl, v, t, rfl, tv.mono (Tups.of sm1), n12, fun zs a H2 hpre sm3 na hs => ?_⟩
    have sm4 := sm1.trans sm3
    refine ⟨_, rfl, ⟨_, SqL.of hs.1⟩, fun D nD => ?_⟩
    have aD : a ≠ D := ne_of_none hs.1 nD
    have slen : zs.length ≤ 23 := by
      have := congrArg List.length hpre
      rw [List.length_map, pre_size] at this
      have := size_leaves t
      omega
    refine lc_it (walk_list (K := K) (a := a) (xs := zs.map fun z => V.ref z.1)) (fun i H' => H' = upd H2 D (.lst ((preForks ((zs.take i).map (·.2.2))).map fun F => V.str (enc F)))) rfl (fun i H' _ e => e ▸ SqL.of (by rw [upd_ne aD]; exact hs.1)) ?_ ?_
    · rintro i y H3 H4 hi rfl ⟨rfl, hy⟩
      obtain ⟨z, hz, rfl⟩ := refs_at hy
      have hmem := List.mem_of_getElem? hz
      obtain ⟨za, zv, zw, zt⟩ := z
      have hz1 := (hs.2 _ hmem).mono (Tups.new (o := .lst ((preForks ((zs.take i).map (·.2.2))).map fun F => V.str (enc F))) nD)
      have e1 : (zs.take (i + 1)).map (·.2.2) = (zs.take i).map (·.2.2) ++ [(zw, zt)] := by rw [take_snoc hz, List.map_append]; rfl
      refine ⟨za, _, rfl, SqT.of hz1.1, rfl, _, _, rfl, _, _, rfl, rfl, rfl, ?_⟩
      have hz2 := hz1.2
      cases hz2 with
      | leaf x =>
        refine ⟨_, rfl, _, _, _, _, _, rfl, .ty _, .base (.str x), kST, _, rfl, iteF ?_⟩
        rw [e1, preForks_append]
        have : preForks [(zw, Tr.leaf x)] = [] := rfl
        rw [this, List.append_nil]
      | fork e hl hr' =>
        refine ⟨_, rfl, _, _, _, _, _, rfl, .ty _, .base (.tup e), kTT, _, rfl, iteT ?_⟩
        refine ⟨_, rfl, _, upd_same, small_line' ?_, ?_⟩
        · rw [List.length_map]
          unfold preForks
          rw [List.length_map]
          refine Nat.le_trans (List.length_filter_le _ _) ?_
          rw [List.length_map, List.length_take]; omega
        · rw [upd_upd, e1, preForks_append, List.map_append]; rfl
    · rintro H3 rfl
      refine k D _ (sNew sm4 nD) (sm4.free nD) ?_
      rw [upd_same, List.length_map, List.take_length, hpre, pre_forks]
end
end Fk

set_option Elab.async false
set_option linter.all false
set_option maxRecDepth 100000
set_option maxHeartbeats 4000000
namespace Fk
open PySem PySem.Spec PyProof.Rows L2
theorem Tr.forks_nodup : ∀ (t : Tr) (w : List Bool), (t.forks w).Nodup
  | .leaf _, _ => List.nodup_nil
  | .fork l r, w => by
    show (w :: (l.forks (w ++ [false]) ++ r.forks (w ++ [true]))).Nodup
    refine List.nodup_cons.mpr ⟨fun h => ?_, List.nodup_append.mpr ⟨l.forks_nodup _, r.forks_nodup _, fun a ha b hb e => ?_⟩⟩
    · rcases List.mem_append.mp h with h | h
      · obtain ⟨v, e, _⟩ := (l.mem_forks _ _).mp h
        have := congrArg List.length e
        simp at this
      · obtain ⟨v, e, _⟩ := (r.mem_forks _ _).mp h
        have := congrArg List.length e
        simp at this
    · obtain ⟨v, e1, _⟩ := (l.mem_forks _ _).mp ha
      obtain ⟨v', e2, _⟩ := (r.mem_forks _ _).mp hb
      rw [e, e2, List.append_assoc, List.append_assoc] at e1
      have := List.append_cancel_left e1
      simp at this
/-! ### the list of the cells -/
abbrev CellZ : Type := Addr × Str × Nat
def CellAt (H : Hp) (z : CellZ) : Prop := H z.1 = some (.tup [.str z.2.1, .int (z.2.2 : Int)])
def CellsAt (H : Hp) (a : Addr) (cs : List (Str × Nat)) : Prop := ∃ zs : List CellZ, zs.map (·.2) = cs ∧ H a = some (.lst (zs.map fun z => V.ref z.1)) ∧ ∀ z ∈ zs, CellAt H z
theorem CellsAt.same {H H' : Hp} {a : Addr} {cs : List (Str × Nat)} (h : CellsAt H a cs) (k : Same H H') : CellsAt H' a cs := by
  obtain ⟨zs, e1, e2, e3⟩ := h
  exact ⟨zs, e1, k _ _ e2, fun z hz => k _ _ (e3 z hz)⟩
section
variable {P : Program} {w : World} {K : PySem.W.Frag} {mg : Str → Option Value} {base : Heap} {f : Addr} {fd : FuncData}
/-! ### flags_by_fork -/
def spFlagsBy : Sp := fun vs H Q _ => ∃ (v : V) (wd cl : Addr) (t : Tr) (ns : List Str), vs = [v, .ref wd, .ref cl] ∧ TrV H v t ∧ t.leaves.Nodup ∧ t.leaves.length ≤ 12 ∧ (∀ x ∈ t.leaves, Nm x) ∧ ns.Perm t.leaves ∧ H wd = some (.dK (wayK (t.ways []))) ∧ CellsAt H cl (cellsOf t.way ns) ∧
  ∀ fl H', Same H H' → H fl = none → FlagsAt t ns H' fl → Q (.ref fl) H'
theorem sc_flags_by_fork : FnScope ["tree", "ways", "cells", "flags", "fork", "index", "writer", "level"] ["tree", "ways", "cells"] (defScope (top 32)) := ⟨rfl, rfl, rfl, by decide +kernel, rfl, by decide +kernel, by decide +kernel⟩
theorem ok_flags_by (T : Free mg) (C_forks_of : Cal P w K mg base 4 "forks_of" spForksOf) (F : Std K "flags_by_fork" "flags_by_fork" (top 32) f fd) (hm : mg "flags_by_fork" = some (.ref f)) : Cal P w K mg base 5 "flags_by_fork" spFlagsBy := by
  refine cal_of F hm (fun _ _ _ _ _ _ us hl => match us, hl with | [_, _, _], _ => rfl) sc_flags_by_fork (fun vs H Q E h => ?_) (fun cdv A outer s H vs Q E hr h => ?_)
  · obtain ⟨_, _, _, _, _, rfl, _⟩ := h; rfl
  · obtain ⟨v, wd, cl, t, ns, rfl, tv, nd, n12, nms, pm, hwd, hcl, k⟩ := h
    have hu := hu_of hr
    refine ⟨_, (pss_cons (ps_set (i := 3) sc_flags_by_fork.nd rfl (.inl rfl) pe_dnewK)
        (pss_cons (ps_for PassesOwn.never rfl (pi_list (pe_f C_forks_of hr (pa_cons (pv 0) pa_nil))) (pg_name (i := 4) sc_flags_by_fork.nd rfl (.inl rfl)) (pss_one (ps_dput hu (pv 3) (pv 4) (pe_lst pa_nil) rfl)))
        (pss_cons (ps_for PassesOwn.never rfl (pi_enum (by rfl) T.enum (pa_cons (pv 2) pa_nil)) (pg_tup rfl (pgs_cons (pg_name (i := 5) sc_flags_by_fork.nd rfl (.inl rfl)) (pgs_cons (pg_tup rfl (pgs_cons (pg_name (i := 6) sc_flags_by_fork.nd rfl (.inl rfl)) (pgs_cons (pg_name (i := 7) sc_flags_by_fork.nd rfl (.inl rfl)) pgs_nil))) pgs_nil))) (pss_cons (ps_set (i := 4) sc_flags_by_fork.nd rfl (.inl rfl) (pe_slice sl_str (pe_dget hu (pv 1) (pv 6) (fun _ _ => rfl)) po_none (po_some (pv 7))))
        (pss_one (ps_expr (pe_bm PySem.F.plainAttrs_list PySem.F.slot_list_append PySem.F.type_list_append mt_append (pe_dget hu (pv 3) (pv 4) (fun _ _ => rfl)) (pa_cons (pv 5) pa_nil))))))
        (pss_one (ps_ret (pv 3)))))), ?_⟩
    refine fun fl nfl => ?_
    refine ⟨_, rfl, v, t, rfl, tv.mono (Tups.new nfl), nd, n12, nms, fun fa H2 sm2 nfa hfa => ?_⟩
    have sm : Same H H2 := (sNew (Same.refl H) nfl).trans sm2
    have hfl2 : H2 fl = some (.dK []) := sm2 _ _ upd_same
    have nfaH : H fa = none := (sNew (Same.refl H) nfl).free nfa
    have flfa : fl ≠ fa := ne_of_none upd_same nfa
    have flen : (t.forks []).length ≤ 11 := by have := t.forks_len []; omega
    have fnd : (t.forks []).Nodup := t.forks_nodup []
    refine ⟨_, rfl, ⟨_, SqL.of hfa⟩, ?_⟩
    refine for_list (K := K) (a := fa) (xs := (t.forks []).map fun F => V.str (enc F)) (fun i σ H' => ∃ (ks : List (List Bool × Addr)) (v4 v5 v6 v7 : Option V), σ = [some v, some (.ref wd), some (.ref cl), some (.ref fl), v4, v5, v6, v7] ∧ Same H H' ∧ H' fa = some (.lst ((t.forks []).map fun F => V.str (enc F))) ∧ ks.map (·.1) = (t.forks []).take i ∧ FlInv t.way (fun a => H a = none) H' fl [] ks)
      ⟨[], none, none, none, none, rfl, sm, hfa, rfl, ⟨hfl2, List.nodup_nil, List.nodup_nil, (fun p hp => nomatch hp), (fun c hc => nomatch hc), (fun p hp => nomatch hp)⟩⟩ (fun i σ H' _ ⟨_, _, _, _, _, _, _, h, _⟩ => SqL.of h) ?_ ?_
    · rintro i y σ H3 hi ⟨ks, v4, v5, v6, v7, rfl, sm3, hfa3, hk, I⟩
      obtain ⟨G, hG, rfl⟩ : ∃ G, (t.forks [])[i]? = some G ∧ y = V.str (enc G) := by
        rw [List.getElem?_map] at hi
        cases e : (t.forks [])[i]? with
        | none => rw [e] at hi; cases hi
        | some G => rw [e] at hi; exact ⟨G, rfl, (Option.some.inj hi).symm⟩
      have nG : G ∉ ks.map (·.1) := fun h => by
        rw [hk] at h
        obtain ⟨j, hj, ej⟩ := List.mem_take_iff_getElem.mp h
        have h1 : (t.forks [])[j]? = some G := by rw [← ej]; exact List.getElem?_eq_getElem _
        have := nd_ix fnd h1 hG
        omega
      refine ⟨Nat.zero_le _, fun q nq => ?_⟩
      have I2 := I.new (o := .lst []) nq
      have nqH : H q = none := sm3.free nq
      have lk : (rowK ks).length ≤ 11 := by
        unfold rowK
        rw [List.length_map]
        have := congrArg List.length hk
        rw [List.length_map, List.length_take] at this
        omega
      refine ⟨_, rfl, _, rfl, fl, _, rfl, DPut.k (k := kS (enc G)) I2.dict (small_line' (by omega)), ?_⟩
      rw [put_end _ (row_none nG)]
      have I3 := I2.add nG upd_same (fun p hp => ne_of_none (I.row p hp) nq) nqH
      refine ⟨_, _, _, _, _, rfl, sOwn (sNew sm3 nq) nfl, by rw [upd_ne (Ne.symm flfa), upd_ne (ne_of_none hfa3 nq)]; exact hfa3, ?_, I3⟩
      rw [List.map_append, hk, take_snoc hG]; rfl
    · rintro σ H3 ⟨ks, v4, v5, v6, v7, rfl, sm3, hfa3, hk, I⟩
      rw [List.length_map, List.take_length] at hk
      obtain ⟨zs, e1, e2, e3⟩ := hcl
      refine ⟨_, rfl, cl, _, rfl, SqL.of (sm3 _ _ e2), ?_⟩
      refine for_it (walk_enum (K := K) (a := cl) (xs := zs.map fun z => V.ref z.1)) (fun i σ H' => ∃ (v4 v5 v6 v7 : Option V), σ = [some v, some (.ref wd), some (.ref cl), some (.ref fl), v4, v5, v6, v7] ∧ Same H H' ∧ FlInv t.way (fun a => H a = none) H' fl ((cellsOf t.way ns).take i) ks)
        ⟨v4, v5, v6, v7, rfl, sm3, I⟩ (fun i σ H' _ ⟨_, _, _, _, _, h, _⟩ => SqL.of (h _ _ e2)) ?_ ?_
      · rintro i y σ H4 H5 hi ⟨v4, v5, v6, v7, rfl, sm4, I⟩ ⟨T', xi, yi, rfl, nT, rfl, hxi, hyi⟩
        cases Option.some.inj hxi
        obtain ⟨z, hz, rfl⟩ : ∃ z, zs[i]? = some z ∧ yi = .ref z.1 := by
          have hyi : (zs.map fun z => V.ref z.1)[i]? = some yi := hyi
          rw [List.getElem?_map] at hyi
          cases e : zs[i]? with
          | none => rw [e] at hyi; cases hyi
          | some z => rw [e] at hyi; exact ⟨z, rfl, (Option.some.inj hyi).symm⟩
        obtain ⟨za, x, l⟩ := z
        have hzc : CellAt H (za, x, l) := e3 _ (List.mem_of_getElem? hz)
        have hcz : (cellsOf t.way ns)[i]? = some (x, l) := by rw [← e1, List.getElem?_map, hz]; rfl
        obtain ⟨hxn, hxl⟩ := mem_cellsOf t.way (List.mem_of_getElem? hcz)
        have hxl : l < (t.way x).length := hxl
        have hx : x ∈ t.leaves := pm.mem_iff.mp hxn
        have sm5 : Same H (upd H4 T' (.tup [.int (i : Nat), .ref za])) := sNew sm4 nT
        have I5 := I.new (o := .tup [.int (i : Nat), .ref za]) nT
        refine ⟨T', _, rfl, SqT.of upd_same, rfl, _, _, rfl, _, _, rfl, za, _, rfl, SqT.of (sm5 _ _ hzc), rfl, _, _, rfl, _, _, rfl, rfl, rfl, ?_⟩
        have dw : DGet (upd H4 T' (.tup [.int (i : Nat), .ref za])) wd (.str x) (some (.str (enc (t.way x)))) := by
          have := DGet.k (k := kS x) (sm5 _ _ hwd)
          rwa [way_val nd hx] at this
        have wl : (t.way x).length ≤ 11 := by
          have := t.way_len nd hx
          have := t.height_lt
          omega
        refine ⟨_, rfl, _, rfl, wd, _, rfl, dw, _, rfl, _, rfl, _, rfl, small_line (by rw [enc_len]; omega), ?_⟩
        rw [enc_take]
        have hF : (t.way x).take l ∈ ks.map (·.1) := by rw [hk]; exact fork_of_cell nd hx hxl
        obtain ⟨p, hp, ep⟩ := List.mem_map.mp hF
        have hl := I5.look hp
        have hrow := I5.row p hp
        rw [ep] at hl
        have clen : ((cellsOf t.way ns).take i).length = i := by
          rw [List.length_take]
          have := (List.getElem?_eq_some_iff.mp hcz).1
          omega
        refine ⟨_, rfl, _, rfl, fl, .ref p.2, rfl, hl ▸ DGet.k (k := kS (enc ((t.way x).take l))) I5.dict, .inl ⟨rfl, _, SqL.of hrow⟩, _, rfl, p.2, _, _, rfl, rfl, hrow, small_line' ?_, ?_⟩
        · unfold natV
          rw [List.length_map]
          have h1 := nodup_le (idx (isAt t.way p.1) ((cellsOf t.way ns).take i) 0) (List.range i) (idx_nodup _ _ _) fun z hz => by
            obtain ⟨q, c, h1, h2, _⟩ := (mem_idx _ _ _ _).mp hz
            have := (List.getElem?_eq_some_iff.mp h2).1
            exact List.mem_range.mpr (by omega)
          rw [List.length_range] at h1
          have h2 := cells_le t.way 11 ns fun y hy => by
            have h3 := t.way_len nd (pm.mem_iff.mp hy)
            have := t.height_lt
            omega
          have h3 := (List.getElem?_eq_some_iff.mp hcz).1
          have h4 := pm.length_eq
          have : ns.length * 11 ≤ 12 * 11 := Nat.mul_le_mul_right _ (by omega)
          omega
        · have I6 := I5.push hp (c := (x, l)) ep.symm
          rw [clen] at I6
          refine ⟨_, _, _, _, rfl, sOwn sm5 (I.av p hp), ?_⟩
          rw [take_snoc hcz]
          exact I6
      · rintro σ H4 ⟨v4, v5, v6, v7, rfl, sm4, I⟩
        refine ⟨_, rfl, k fl H4 sm4 nfl (FlagsAt.of (Av := fun a => H a = none) (ks := ks) ?_ fun F => by rw [hk])⟩
        have : (cellsOf t.way ns).take (zs.map fun z => V.ref z.1).length = cellsOf t.way ns := by
          rw [← e1, List.length_map]
          exact List.take_of_length_le (by rw [List.length_map]; exact Nat.le_refl _)
        rw [this] at I
        exact I
end
end Fk

set_option Elab.async false
set_option linter.all false
set_option maxRecDepth 100000
set_option maxHeartbeats 4000000
namespace Fk
open PySem PySem.Spec PyProof.Rows L2
/-! ### zip of a tuple and a list -/
def JTL (K : PySem.W.Frag) (a b : Addr) : It :=
  ⟨fun i H => ∃ (xs ys : List V) (x y : V), SqT K H a xs ∧ SqL K H b ys ∧ xs[i]? = some x ∧ ys[i]? = some y,
    fun i H v H' => ∃ t x y, v = .ref t ∧ H t = none ∧ H' = upd H t (.tup [x, y]) ∧ (∀ xs, SqT K H a xs → xs[i]? = some x) ∧ ∀ ys, SqL K H b ys → ys[i]? = some y,
    fun i H => ∃ xs ys : List V, SqT K H a xs ∧ SqL K H b ys ∧ xs.length = ys.length ∧ i = xs.length⟩
theorem apart_sep {z TI TO i1 i2 a b : Addr} (D : ZipApart z TI TO i1 i2 a b) : ZipSep2 z TI TO i1 i2 [i1, a] [i2, b] where
  TIz := D.TIz
  TOz := D.TOz
  TITO := D.TITO
  TIi1 := D.TIi1
  mem1 := by simp
  zf1 := by simp [Ne.symm D.i1z, Ne.symm D.l1z]
  Tf1 := by simp [D.TOi1, Ne.symm D.l1TO]
  TIi2 := D.TIi2
  mem2 := by simp
  zf2 := by simp [Ne.symm D.i2z, Ne.symm D.l2z]
  Tf2 := by simp [D.TOi2, Ne.symm D.l2TO]
  sep1_2 := by simp [D.i12, Ne.symm D.l2i1]
  sep2_1 := by simp [Ne.symm D.i12, Ne.symm D.l1i2]
theorem turnTL {P : Program} {w : World} {K : PySem.W.Frag} {es : List Expr} {kk : Nat} {tp : Pos} {a b z TI TO i1 i2 : Addr} (D : ZipApart z TI TO i1 i2 a b) :
    Turn P w K (.Tuple es kk tp) (JTL K a b) [z, TI, TO, i1, i2] z (fun i h => IsZip h z TI TO .none ∧ IsTupOf2 h TI (.ref i1) (.ref i2) ∧ (∃ x y, IsTupOf2 h TO x y) ∧ h.IsTupleIter i1 a i ∧ h.IsListIter i2 b i) where
  mem := by simp
  obj := fun i h st c hc => by
    obtain ⟨hz, hTI, ⟨x, y, hTO⟩, ⟨ob1, e1, _, d1⟩, ⟨ob2, e2, _, d2⟩⟩ := st
    have hc' : c = z ∨ c = TI ∨ c = TO ∨ c = i1 ∨ c = i2 := by simpa using hc
    rcases hc' with (rfl | rfl | rfl | rfl | rfl)
    · exact ⟨_, hz, fun v q => nomatch q⟩
    · exact ⟨_, hTI, fun v q => nomatch q⟩
    · exact ⟨_, hTO, fun v q => nomatch q⟩
    · exact ⟨ob1, e1, fun v q => by rw [d1] at q; cases q⟩
    · exact ⟨ob2, e2, fun v q => by rw [d2] at q; cases q⟩
  keep := fun i h h' st k => by
    obtain ⟨hz, hTI, ⟨p, q, hTO⟩, h1, h2⟩ := st
    exact ⟨k z (by simp) _ hz, k TI (by simp) _ hTI, ⟨p, q, k TO (by simp) _ hTO⟩, h1.at fun u eu => k i1 (by simp) u eu, h2.at fun u eu => k i2 (by simp) u eu⟩
  item := by
    intro X hP hw hK calm i pins s σ H E I hf st hg
    subst hP hw hK
    obtain ⟨hz, hTI, ⟨old1, old2, hTO⟩, h1, h2⟩ := st
    obtain ⟨xs, ys, x, y, hqa, hqb, hx, hy⟩ := hg
    obtain ⟨us, rv, p1, _⟩ := I.tuple hqa
    obtain ⟨us2, rv2, p2, _⟩ := I.list hqb
    have hh : X.A.in1.handled = none := I.ok.hd calm
    have l1 := rv.length
    have l2 := rv2.length
    have n1 := (List.getElem?_eq_some_iff.mp hx).1
    have n2 := (List.getElem?_eq_some_iff.mp hy).1
    have D1 := Draws.tuple (prog := X.prog) (w := X.w) hh i1 a D.l1i1 us.toArray
    have D2 := Draws.list (prog := X.prog) (w := X.w) hh i2 b D.l2i2 us2.toArray
    have zlt : z < s.heap.objs.size := Heap.lt_size hz
    refine wpAny_pyNext_zipD2_item (apart_sep D) D1 D2 hz hTI hTO ⟨h1, p1⟩ ⟨h2, p2.isList⟩ (by simp; omega) (by simp; omega) fun u u2 h' tk hu hu2 z' TO' t1 t2 hT hsz hk => ?_
    have ru : RelV x u := by
      obtain ⟨u', e, r⟩ := rv.get hx
      have : us[i]? = some u := by simpa using hu
      rw [this] at e
      rw [Option.some.inj e]; exact r
    have ru2 : RelV y u2 := by
      obtain ⟨u', e, r⟩ := rv2.get hy
      have : us2[i]? = some u2 := by simpa using hu2
      rw [this] at e
      rw [Option.some.inj e]; exact r
    refine ⟨_, rfl, wpAny_letOwnedTupleGo_zip (s := { s with heap := h', toks := tk }) z' fun h'' z'' sb => ?_⟩
    have hpair : h''.get? s.heap.objs.size = some { cls := .type "tuple", data := .seq #[u, u2] } := (sb.2 _ (Nat.ne_of_gt zlt)).trans hT
    have new : ObjOk X.prog X.w (upd H s.heap.objs.size (.tup [x, y])) h'' s.heap.objs.size (.tup [x, y]) := ⟨(by show 2 ≤ sizeLine; decide), [u, u2], .cons ru (.cons ru2 .nil), _, hpair, rfl, _, rfl⟩
    have I1 := I.turnedNew (t' := tk) (ch := [z, TI, TO, i1, i2]) (h' := h'') (fun c o hb q => (sb.2 c (fun q' => hb (by simp [q']))).trans (hk c o (fun q' => hb (by simp [q'])) (fun q' => hb (by simp [q'])) (fun q' => hb (by simp [q'])) (fun q' => hb (by simp [q'])) q)) hf (Nat.le_refl _) new
    refine ⟨.ref s.heap.objs.size, _, I1, rfl, ⟨_, x, y, rfl, I.hok.fresh (Nat.le_refl _), rfl, fun l hl => by rw [I.tuple_inj hl hqa]; exact hx, fun l hl => by rw [I.list_inj hl hqb]; exact hy⟩, ⟨z'', (sb.2 _ D.TIz).trans (hk _ _ D.TIz D.TITO D.TIi1 D.TIi2 hTI), ⟨u, u2, (sb.2 _ D.TOz).trans TO'⟩, t1.1.at fun o q => (sb.2 _ D.i1z).trans q, t2.1.at fun o q => (sb.2 _ D.i2z).trans q⟩, fun c hcm => ?_⟩
    have hlt : c < s.heap.objs.size := by
      have hc' : c = z ∨ c = TI ∨ c = TO ∨ c = i1 ∨ c = i2 := by simpa using hcm
      rcases hc' with (rfl | rfl | rfl | rfl | rfl)
      · exact zlt
      · exact Heap.lt_size hTI
      · exact Heap.lt_size hTO
      · obtain ⟨_, e1, _⟩ := h1; exact Heap.lt_size e1
      · obtain ⟨_, e2, _⟩ := h2; exact Heap.lt_size e2
    rw [upd_ne (Nat.ne_of_lt hlt)]
    exact (hf c hcm).1
  done := by
    intro X hP hw hK calm i pins s σ H E I hf st hg
    subst hP hw hK
    obtain ⟨hz, hTI, ⟨old1, old2, hTO⟩, h1, h2⟩ := st
    obtain ⟨xs, ys, hqa, hqb, hl, rfl⟩ := hg
    obtain ⟨us, rv, p1, _⟩ := I.tuple hqa
    obtain ⟨us2, rv2, p2, _⟩ := I.list hqb
    have hh : X.A.in1.handled = none := I.ok.hd calm
    have l1 := rv.length
    have l2 := rv2.length
    have D1 := Draws.tuple (prog := X.prog) (w := X.w) hh i1 a D.l1i1 us.toArray
    have D2 := Draws.list (prog := X.prog) (w := X.w) hh i2 b D.l2i2 us2.toArray
    exact wpAny_pyNext_zipD2_end (apart_sep D) D1 D2 hz hTI hTO ⟨h1, p1⟩ ⟨h2, p2.isList⟩ (by simp; omega) (by simp; omega) (.inl (by simp; omega)) fun h' tk hk => ⟨rfl, I.turnedL (t' := tk) (ch := [z, TI, TO, i1, i2]) (fun c o off q =>
      hk c o (fun e => off (by simp [e])) (fun e => off (by simp [e])) (fun e => off (by simp [e])) (fun e => off (by simp [e])) q) hf⟩
  self := fun _ _ _ _ _ at0 q => wpAny_pyIter_zip at0.1 q
def iZipTL (K : PySem.W.Frag) (ta : TA) : TI := fun σ H R => ta σ H fun vs H1 => ∃ a b xs ys, vs = [.ref a, .ref b] ∧ SqT K H1 a xs ∧ SqL K H1 b ys ∧ R (JTL K a b) H1
theorem pi_zipTL {X : Cx} {e e2 : Expr} {ta : TA} {p pos tp : Pos} {es : List Expr} {kk : Nat} (hg : Gl X "zip") (hm : X.mg "zip" = none) (ha : PA X [e, e2] ta)
    (hst : starEach [e, e2] X.env = (false, eval e X.env) :: starEach [e2] X.env := by rfl) (hno : (backTo pos (starEach [e2] X.env)).any (·.1) = false := by rfl) :
    PI X (.Tuple es kk tp) (.Call (.Name "zip" p) [e, e2] [] pos) (iZipTL X.K ta) := by
  refine ⟨fun pins s σ H R I h => ?_⟩
  refine Call_ (ld_blt I hg hm PyProof.Rows.boot_zip (PyProof.Rows.callWith_type1 (thn (ha.run pos pins s σ H _ I h) fun us s1 ⟨vs, H1, I1, r1, q1⟩ => ?_) hst hno))
  obtain ⟨a, b, xs, ys, rfl, hqx, hqy, q⟩ := q1
  cases r1 with
  | cons r rr => cases rr with
    | cons r' rr =>
      cases rr
      cases r
      cases r'
      obtain ⟨us, rv, p1, _⟩ := I1.tuple hqx
      obtain ⟨us2, rv2, p2, _⟩ := I1.list hqy
      obtain ⟨o1, ho1, _⟩ := id p1
      refine zip_begins2 (begins_tuple a us.toArray) (begins_list b us2.toArray) p1 p2.isList fun h' hz hTI hTO g1 g2 hsz hk => wpAny_pyIter_zip hz ?_
      have IZ : Inv X pins σ H1 { s1 with heap := h' } := I1.kept (t' := s1.toks) hk
      refine ⟨s1.heap.objs.size + 4, [s1.heap.objs.size + 4, s1.heap.objs.size + 2, s1.heap.objs.size + 3, s1.heap.objs.size, s1.heap.objs.size + 1], _, _, H1, rfl, IZ, turnTL (PySem.W.ktu_apart s1.heap.objs.size a b (Heap.lt_size ho1) p2.lt), ⟨hz, hTI, ⟨_, _, hTO⟩, ⟨_, g1, rfl, rfl⟩, ⟨_, g2, rfl, rfl⟩⟩, fun c hcm => ?_, q⟩
      have young : s1.heap.objs.size ≤ c := by
        have hc' : c = s1.heap.objs.size + 4 ∨ c = s1.heap.objs.size + 2 ∨ c = s1.heap.objs.size + 3 ∨ c = s1.heap.objs.size ∨ c = s1.heap.objs.size + 1 := by simpa using hcm
        rcases hc' with z | z | z | z | z <;> rw [z] <;> omega
      exact I1.fpOk young (I1.hok.fresh young)
theorem walkTL {K : PySem.W.Frag} {a b : Addr} {xs ys : List V} (hl : xs.length = ys.length) : Walk (JTL K a b) xs.length (fun H => SqT K H a xs ∧ SqL K H b ys) (YPair (fun i => xs[i]?) (fun i => ys[i]?)) := by
  refine ⟨fun i H hi q => ⟨xs, ys, xs[i], ys[i], q.1, q.2, List.getElem?_eq_getElem hi, List.getElem?_eq_getElem (by omega)⟩, fun H q => ⟨xs, ys, q.1, q.2, hl, rfl⟩, fun i H v H' hi q y => ?_⟩
  obtain ⟨t, x, y, h1, h2, h3, h4, h5⟩ := y
  exact ⟨t, x, y, h1, h2, h3, h4 xs q.1, h5 ys q.2⟩
end Fk

set_option Elab.async false
set_option linter.all false
set_option maxRecDepth 100000
set_option maxHeartbeats 4000000
namespace Fk
open PySem PySem.Spec PyProof.Rows L2
/-! ### reversed(range(n)), held by a name -/
def RvO (it : Addr) (n : Nat) : HO := .ext fun h => IsRangeIter h it ((n : Int) - 1) n (-1)
theorem rvO_ok {P : Program} {w : World} {H : Hp} {h : Heap} {it : Addr} {n : Nat} (e : IsRangeIter h it ((n : Int) - 1) n (-1)) : ObjOk P w H h it (RvO it n) := ⟨e, ⟨_, e⟩, fun h1 h2 q k => k _ q⟩
/-- it is new, and younger than the call -/
def tRevV (m : Nat) (te : TE) : TE := fun σ H Q => tRg1 te σ H fun a b H1 => a = 0 ∧ ∃ n : Nat, b = (n : Int) ∧ (n : Int) < 2 ^ 62 ∧ ∀ it, H1 it = none → m ≤ it → Q (.ref it) (upd H1 it (RvO it n))
theorem pe_revV {X : Cx} {e : Expr} {te : TE} {p pos q pos2 : Pos} (hg : Gl X "reversed") (hm : X.mg "reversed" = none) (hg2 : Gl X "range") (hm2 : X.mg "range" = none) (he : PE X e te)
    (na : starEach [e] X.env = (false, eval e X.env) :: starEach [] X.env := by rfl) (hs : starEach [.Call (.Name "range" q) [e] [] pos2] X.env = (false, eval (.Call (.Name "range" q) [e] [] pos2) X.env) :: starEach [] X.env := by rfl) :
    PE X (.Call (.Name "reversed" p) [.Call (.Name "range" q) [e] [] pos2] [] pos) (tRevV X.s_0.heap.objs.size te) := by
  refine ⟨fun pins s σ H Q I h => ?_⟩
  have he' : PRg X (.Call (.Name "range" q) [e] [] pos2) (tRg1 te) := prg_1 hg2 hm2 he na
  refine Call_ (ld_blt I hg hm PyProof.Rows.boot_reversed (PyProof.Rows.callWith_type1 (args_cons (thn (he' pins s σ H (fun a b H1 => a = 0 ∧ ∃ n : Nat, b = (n : Int) ∧ (n : Int) < 2 ^ 62 ∧ ∀ it, H1 it = none → X.s_0.heap.objs.size ≤ it → Q (.ref it) (upd H1 it (RvO it n))) I h) fun u s1 hx => args_nil ?_) hs) hs rfl))
  obtain ⟨r, a, b, t, w1, v, H1, eu, hr, I1, rfl, n, rfl, b4, q⟩ := hx
  subst eu
  have hn : Builtin.Range.rangeSize 0 (n : Int) 1 = (n : Int) := by
    have := rangeSize_nat 0 (n : Int)
    rw [this]; omega
  refine call_reversed_range hr (smallRev_one (by decide) (by decide) (by omega) b4) ?_
  have eo : IsRangeIter (s1.heap.push (rngRevObj 0 (n : Int) 1)) s1.heap.objs.size ((n : Int) - 1) n (-1) := by
    have := Heap.get?_push_size s1.heap (o := rngRevObj 0 (n : Int) 1) rfl
    unfold rngRevObj at this
    rw [hn] at this
    have e1 : 0 + ((n : Int) - 1) * 1 = (n : Int) - 1 := by omega
    rw [e1] at this
    unfold rngRevObj
    rw [hn, e1]
    exact this
  exact ⟨.ref s1.heap.objs.size, _, I1.laid (t' := s1.toks) (fun b u e => Heap.get?_push_of_some _ e) (Nat.le_refl _) (rvO_ok eo), rfl, q _ (I1.hok.fresh (Nat.le_refl _)) I1.sz⟩
/-- for .. in it, it the name that holds it; behind it the iterator is forgotten -/
def iRevV (m : Nat) (k : Nat) : TI := fun σ H R => ∃ (it : Addr) (n : Nat), σ[k]? = some (some (.ref it)) ∧ H it = some (RvO it n) ∧ m ≤ it ∧ R (Itc ((n : Int) - 1) (-1) n) (ItX.dropH H it)
theorem pi_revV {X : Cx} {tg : Expr} {k : Nat} {x : Str} {p : Pos} (hN : X.N[k]? = some x) (hv : Vis X.env.scope x) (hd : (x == ("__debug__" : Str)) = false := by decide) (hcd : (x == ("__classdict__" : Str)) = false := by decide) :
    PI X tg (.Name x p) (iRevV X.s_0.heap.objs.size k) := by
  refine ⟨fun pins s σ H R I h => ?_⟩
  obtain ⟨it, n, hs, hi, hn, q⟩ := h
  refine thn ((pe_var (pos := p) (i := k) hN hv hd hcd).run pins s σ H (fun x H1 => x = .ref it ∧ H1 = H) I ⟨.ref it, hs, rfl, rfl⟩) fun u s1 ⟨x, H1, I1, r1, ev, eH⟩ => ?_
  subst ev
  rw [eH] at I1
  cases r1
  have eo : IsRangeIter s1.heap it ((n : Int) - 1) n (-1) := (I1.hok it _ hi).1
  have st : IsRangeIter s1.heap it ((n : Int) - 1 + ((0 : Nat) : Int) * (-1)) ((n : Int) - ((0 : Nat) : Int)) (-1) := by
    have e1 : (n : Int) - 1 + ((0 : Nat) : Int) * (-1) = (n : Int) - 1 := by omega
    have e2 : (n : Int) - ((0 : Nat) : Int) = (n : Int) := by omega
    rw [e1, e2]; exact eo
  refine (turn_rangeC (P := X.prog) (w := X.w) (K := X.K) (tg := tg) it ((n : Int) - 1) (-1) n).self X.A 0 s1 _ _ st ?_
  have hi' := hi
  unfold RvO at hi'
  refine ⟨it, [it], _, _, ItX.dropH H it, rfl, ItX.inv_drop I1 hi', turn_rangeC it ((n : Int) - 1) (-1) n, st, fun b hb => ?_, q⟩
  have eb : b = it := by simpa using hb
  rw [eb]
  exact ItX.inv_fp I1 hi hn
end Fk

set_option Elab.async false
set_option linter.all false
set_option maxRecDepth 100000
set_option maxHeartbeats 4000000
namespace Fk
open PySem PySem.Spec PyProof.Rows L2
/-! ### the plan -/
structure TrOk (t : Tr) (ns : List Str) : Prop where
  nd : t.leaves.Nodup
  n12 : t.leaves.length ≤ 12
  nms : ∀ x ∈ t.leaves, Nm x
  pm : ns.Perm t.leaves
section
variable {t : Tr} {ns : List Str}
theorem TrOk.nn (h : TrOk t ns) : ns.Nodup := h.pm.nodup_iff.mpr h.nd
theorem TrOk.mem (h : TrOk t ns) {x : Str} : x ∈ ns ↔ x ∈ t.leaves := h.pm.mem_iff
theorem TrOk.nlen (h : TrOk t ns) : ns.length ≤ 12 := by rw [h.pm.length_eq]; exact h.n12
theorem TrOk.height (h : TrOk t ns) : t.height ≤ 11 := by have := t.height_lt; have := h.n12; omega
theorem TrOk.wlen (h : TrOk t ns) {x : Str} (hx : x ∈ t.leaves) : (t.way x).length ≤ 11 := Nat.le_trans (t.way_len h.nd hx) h.height
theorem TrOk.clen (h : TrOk t ns) : cellN t ns ≤ 132 := by
  have h2 := cells_le t.way 11 ns fun y hy => h.wlen (h.mem.mp hy)
  have h3 := h.nlen
  have : ns.length * 11 ≤ 12 * 11 := Nat.mul_le_mul_right _ (by omega)
  unfold cellN
  omega
end
theorem bitI_bd (b : Bool) : 0 ≤ bitI b ∧ bitI b < 2 := by cases b <;> exact ⟨by decide, by decide⟩
structure PCls (K : PySem.W.Frag) (C : Addr) : Prop where
  cl : Cls K C
  names : NoAttr K C "names"
  cells : NoAttr K C "cells"
  sizes : NoAttr K C "sizes"
  tree : NoAttr K C "tree"
  ways : NoAttr K C "ways"
  flags : NoAttr K C "_flags"
  leaves : NoAttr K C "_leaves"
  written : NoAttr K C "_written"
def planFs (n c s : Addr) (v : V) (w f l : Addr) (z : Str) : List (Str × V) := [("names", .ref n), ("cells", .ref c), ("sizes", .ref s), ("tree", v), ("ways", .ref w), ("_flags", .ref f), ("_leaves", .ref l), ("_written", .str z)]
structure PlanParts (H : Hp) (C a : Addr) (t : Tr) (ns : List Str) (dx n c s : Addr) (v : V) (w f l : Addr) (z : Str) : Prop where
  ins : H a = some (.ins C dx (planFs n c s v w f l z))
  names : H n = some (.lst (ns.map V.str))
  cells : CellsAt H c (cellsOf t.way ns)
  sizes : H s = some (.lst (List.replicate (cellN t ns) (.int 2)))
  ways : H w = some (.dK (wayK (t.ways [])))
  flags : FlagsAt t ns H f
  leaves : LeavesAt t H l
def PlanAt (H : Hp) (C a : Addr) (t : Tr) (ns : List Str) : Prop := ∃ dx n c s v w f l z, PlanParts H C a t ns dx n c s v w f l z
theorem PlanAt.same {H H' : Hp} {C a : Addr} {t : Tr} {ns : List Str} (h : PlanAt H C a t ns) (k : Same H H') : PlanAt H' C a t ns := by
  obtain ⟨dx, n, c, s, v, w, f, l, z, p⟩ := h
  exact ⟨dx, n, c, s, v, w, f, l, z, k _ _ p.ins, k _ _ p.names, p.cells.same k, k _ _ p.sizes, k _ _ p.ways, p.flags.same k, p.leaves.same k⟩
section
variable {P : Program} {w : World} {K : PySem.W.Frag} {mg : Str → Option Value} {base : Heap} {f : Addr} {fd : FuncData} {C : Addr}
/-! ### check_writer -/
def spCheckWriter (C : Addr) : Sp := fun vs H Q _ => ∃ (a : Addr) (t : Tr) (ns : List Str) (x : Str), vs = [.ref a, .str x] ∧ PlanAt H C a t ns ∧ x ∈ ns ∧ Q .non H
theorem sc_Plan_check_writer : FnScope ["self", "writer"] ["self", "writer"] (defScope (met 30 4)) := ⟨rfl, rfl, rfl, by decide +kernel, rfl, by decide +kernel, by decide +kernel⟩
theorem ok_check_writer (PC : PCls K C) (F : Std K "check_writer" "Plan.check_writer" (met 30 4) f fd) (hm : Meth K C "check_writer" f) : Met P w K mg base 1 C "check_writer" (spCheckWriter C) := by
  have cl := PC.cl
  refine met_of F hm (fun _ _ _ _ _ _ us hl => match us, hl with | [_, _], _ => rfl) sc_Plan_check_writer (fun vs H Q E h => ?_) (fun cdv A outer s H vs Q E hr h => ?_)
  · obtain ⟨_, _, _, _, rfl, _⟩ := h; rfl
  · obtain ⟨a, t, ns, x, rfl, ⟨dx, n, c, sz, v, wd, fl, lf, z, p⟩, hx, k⟩ := h
    refine ⟨_, (pss_one (ps_if (pt_cmpR op_notIn_seq (pv 1) (pe_fld (pv 0) rfl) (by rfl)) (pss_one ps_never) pss_nil)), ?_⟩
    refine ⟨_, rfl, _, rfl, a, C, dx, _, .ref n, rfl, p.ins, cl, PC.names, rfl, n, _, rfl, .inl (SqL.of p.names), rfl, flat_strs _, _, rfl, ?_⟩
    show if (!inV (.str x) (ns.map V.str)) = true then _ else _
    rw [inV_str, decide_eq_true hx]
    exact iteF k
/-! ### check_state -/
def spCheckState (C : Addr) : Sp := fun vs H Q _ => ∃ (a st : Addr) (t : Tr) (ns : List Str) (bs : List Bool), vs = [.ref a, .ref st] ∧ PlanAt H C a t ns ∧ StAt H st bs ∧ bs.length = cellN t ns ∧ ∀ H', Same H H' → Q .non H'
theorem sc_Plan_check_state : FnScope ["self", "state", "mark", "size"] ["self", "state"] (defScope (met 30 5)) := ⟨rfl, rfl, rfl, by decide +kernel, rfl, by decide +kernel, by decide +kernel⟩
theorem ok_check_state (T : Free mg) (PC : PCls K C) (C_is_below : Cal P w K mg base 1 "is_below" spIsBelow) (F : Std K "check_state" "Plan.check_state" (met 30 5) f fd) (hm : Meth K C "check_state" f) : Met P w K mg base 2 C "check_state" (spCheckState C) := by
  have cl := PC.cl
  refine met_of F hm (fun _ _ _ _ _ _ us hl => match us, hl with | [_, _], _ => rfl) sc_Plan_check_state (fun vs H Q E h => ?_) (fun cdv A outer s H vs Q E hr h => ?_)
  · obtain ⟨_, _, _, _, _, rfl, _⟩ := h; rfl
  · obtain ⟨a, st, t, ns, bs, rfl, ⟨dx, n, c, sz, v, wd, fl, lf, z, p⟩, hs, hl, k⟩ := h
    refine ⟨_, (pss_cons (ps_if (PW.pt (pw_or (pt_not (pt_val (pe_callB call_isi (by rfl) T.isi (by decide +kernel) (pa_cons (pv 1) (pa_cons (pe_bltn (v := .ty "tuple") (u := .type "tuple") (by rfl) T.tuple (by decide +kernel) rfl) pa_nil))))) (pw_or1 (pt_cmpR op_ne (pe_callB call_len_seq (by rfl) T.len (by decide +kernel) (pa_cons (pv 1) pa_nil)) (pe_callB call_len_seq (by rfl) T.len (by decide +kernel) (pa_cons (pe_fld (pv 0) rfl) pa_nil)) (nomark _))))) (pss_one ps_never) pss_nil)
        (pss_one (ps_for PassesOwn.never rfl (pi_zipTL (by rfl) T.zip (pa_cons (pv 1) (pa_cons (pe_fld (pv 0) rfl) pa_nil))) (pg_tup rfl (pgs_cons (pg_name (i := 2) sc_Plan_check_state.nd rfl (.inl rfl)) (pgs_cons (pg_name (i := 3) sc_Plan_check_state.nd rfl (.inl rfl)) pgs_nil))) (pss_one (ps_if (pt_not (pt_val (pe_f C_is_below hr (pa_cons (pv 2) (pa_cons (pv 3) pa_nil))))) (pss_one ps_never) pss_nil))))), ?_⟩
    refine ⟨_, rfl, _, _, _, _, _, rfl, .ty _, .base (.tup hs), kTT, _, rfl, iteF ?_⟩
    refine ⟨_, rfl, st, _, rfl, .inr (SqT.of hs), _, rfl, a, C, dx, _, .ref sz, rfl, p.ins, cl, PC.sizes, rfl, sz, _, rfl, .inl (SqL.of p.sizes), rfl, _, rfl, ite2 (fun c => ?_) (fun _ => ?_)⟩
    · rw [bitV_len, List.length_replicate, hl, decide_eq_true rfl] at c
      cases c
    · refine ⟨_, rfl, _, rfl, a, C, dx, _, .ref sz, rfl, p.ins, cl, PC.sizes, rfl, st, sz, _, _, rfl, SqT.of hs, SqL.of p.sizes, ?_⟩
      refine for_it (walkTL (K := K) (a := st) (b := sz) (xs := bitV bs) (ys := List.replicate (cellN t ns) (.int 2)) (by rw [bitV_len, List.length_replicate, hl])) (fun i σ H' => ∃ v2 v3, σ = [some (.ref a), some (.ref st), v2, v3] ∧ Same H H') ⟨none, none, rfl, Same.refl H⟩ (fun i σ H' _ ⟨_, _, _, sm⟩ => ⟨SqT.of (sm _ _ hs), SqL.of (sm _ _ p.sizes)⟩) ?_ ?_
      · rintro i y σ H1 H2 hi ⟨v2, v3, rfl, sm⟩ ⟨T', x, y', rfl, nT, rfl, hx, hy⟩
        have hx : (bitV bs)[i]? = some x := hx
        have hy : (List.replicate (cellN t ns) (V.int 2))[i]? = some y' := hy
        obtain ⟨b, rfl⟩ : ∃ b, x = .int (bitI b) := by
          unfold bitV at hx
          rw [List.getElem?_map] at hx
          cases e : bs[i]? with
          | none => rw [e] at hx; cases hx
          | some b => rw [e] at hx; exact ⟨b, (Option.some.inj hx).symm⟩
        obtain rfl : y' = .int 2 := List.eq_of_mem_replicate (List.mem_of_getElem? hy)
        obtain ⟨b0, b1⟩ := bitI_bd b
        refine ⟨T', _, rfl, SqT.of upd_same, rfl, _, _, rfl, _, _, rfl, rfl, _, rfl, _, rfl, bitI b, 2, rfl, b0, b1, _, rfl, iteF ⟨_, _, rfl, sNew sm nT⟩⟩
      · rintro σ H1 ⟨v2, v3, rfl, sm⟩
        exact k H1 sm
/-! ### cells_of -/
def spCellsOf (C : Addr) : Sp := fun vs H Q _ => ∃ (a : Addr) (t : Tr) (ns : List Str) (x : Str), vs = [.ref a, .str x] ∧ PlanAt H C a t ns ∧ TrOk t ns ∧ x ∈ ns ∧
  ∀ q H', Same H H' → H q = none → H' q = some (.lst (natV ((List.range (t.way x).length).map (beg t.way ns x + ·)))) → Q (.ref q) H'
theorem sc_Plan_cells_of : FnScope ["self", "writer", "index", "cell"] ["self", "writer"] (defScope (met 30 7)) := ⟨rfl, rfl, rfl, by decide +kernel, rfl, by decide +kernel, by decide +kernel⟩
theorem ok_cells_of (T : Free mg) (PC : PCls K C) (M_check_writer : Met P w K mg base 1 C "check_writer" (spCheckWriter C)) (F : Std K "cells_of" "Plan.cells_of" (met 30 7) f fd) (hm : Meth K C "cells_of" f) : Met P w K mg base 2 C "cells_of" (spCellsOf C) := by
  have cl := PC.cl
  refine met_of F hm (fun _ _ _ _ _ _ us hl => match us, hl with | [_, _], _ => rfl) sc_Plan_cells_of (fun vs H Q E h => ?_) (fun cdv A outer s H vs Q E hr h => ?_)
  · obtain ⟨_, _, _, _, rfl, _⟩ := h; rfl
  · obtain ⟨a, t, ns, x, rfl, pa, ok, hx, k⟩ := h
    refine ⟨_, (pss_cons (ps_expr (pe_m M_check_writer cl hr (pv 0) (pa_cons (pv 1) pa_nil)))
        (pss_one (ps_ret (pe_lc rfl sc_Plan_cells_of.nd (pi_enum (by rfl) T.enum (pa_cons (pe_fld (pv 0) rfl) pa_nil)) (blkOk_by (own := [("index", 2), ("cell", 3)]) (N := ["self", "writer", "index", "cell"]) (sc := defScope (met 30 7)) (by decide +kernel)) (fun _ _ _ _ _ => (pg_tupK (K := K) (n := 2) rfl rfl (pgs_cons (pg_name (i := 2) sc_Plan_cells_of.nd rfl (.inl rfl)) (pgs_cons (pg_name (i := 3) sc_Plan_cells_of.nd rfl (.inl rfl)) pgs_nil)))) (fun _ _ _ _ _ => (pts_one (pt_cmpR op_eq (pe_ix (show IxR _ (rIxT K) from ix_tup) (pv 3) pe_int (fun _ _ => rfl)) (pv 1) (nomark _)))) (fun _ _ _ _ _ => (pv 2)))))), ?_⟩
    have pa' := pa
    obtain ⟨dx, n, c, sz, v, wd, fl, lf, z, p⟩ := pa
    obtain ⟨zs, e1, e2, e3⟩ := p.cells
    refine ⟨_, rfl, a, dx, _, rfl, p.ins, rfl, _, rfl, a, t, ns, x, rfl, pa', hx, ?_⟩
    refine ⟨_, rfl, a, C, dx, _, .ref c, rfl, p.ins, cl, PC.cells, rfl, c, _, rfl, SqL.of e2, fun D nD => ?_⟩
    have cD : c ≠ D := ne_of_none e2 nD
    have clen := ok.clen
    refine lc_it (walk_enum (K := K) (a := c) (xs := zs.map fun z => V.ref z.1)) (fun i H' => Same H H' ∧ H' D = some (.lst (natV (idx (fun c => decide (c.1 = x)) ((cellsOf t.way ns).take i) 0)))) ⟨sNew (Same.refl H) nD, upd_same⟩ (fun i H' _ h => SqL.of (h.1 _ _ e2)) ?_ ?_
    · rintro i y H1 H2 hi ⟨sm, hD⟩ ⟨T', xi, yi, rfl, nT, rfl, hxi, hyi⟩
      cases Option.some.inj hxi
      obtain ⟨z', hz, rfl⟩ : ∃ z, zs[i]? = some z ∧ yi = .ref z.1 := by
        have hyi : (zs.map fun z => V.ref z.1)[i]? = some yi := hyi
        rw [List.getElem?_map] at hyi
        cases e : zs[i]? with
        | none => rw [e] at hyi; cases hyi
        | some z => rw [e] at hyi; exact ⟨z, rfl, (Option.some.inj hyi).symm⟩
      have hzc : CellAt H z' := e3 _ (List.mem_of_getElem? hz)
      have hcz : (cellsOf t.way ns)[i]? = some z'.2 := by rw [← e1, List.getElem?_map, hz]; rfl
      have sm2 : Same H (upd H1 T' (.tup [.int (i : Nat), .ref z'.1])) := sNew sm nT
      have hD2 : (upd H1 T' (.tup [.int (i : Nat), .ref z'.1])) D = some (.lst (natV (idx (fun c => decide (c.1 = x)) ((cellsOf t.way ns).take i) 0))) := by rw [upd_ne (ne_of_none hD nT)]; exact hD
      refine ⟨T', _, rfl, SqT.of upd_same, rfl, _, _, rfl, _, _, rfl, rfl, rfl, ?_⟩
      refine ⟨_, rfl, z'.1, _, _, _, rfl, rfl, SqT.of (sm2 _ _ hzc), atI_nat (j := 0) rfl, _, rfl, rfl, _, rfl, ?_⟩
      have ei := idx_take_succ (fun c => decide (c.1 = x)) (cellsOf t.way ns) i z'.2 hcz
      refine ite2 (fun c => ?_) (fun c => ?_)
      · have c : z'.2.1 = x := V.str.inj (of_decide_eq_true c)
        refine ⟨_, rfl, _, hD2, small_line' ?_, sOwn sm2 nD, ?_⟩
        · unfold natV
          rw [List.length_map]
          have h1 := nodup_le (idx (fun c => decide (c.1 = x)) ((cellsOf t.way ns).take i) 0) (List.range i) (idx_nodup _ _ _) fun z hz => by
            obtain ⟨q, c, h1, h2, _⟩ := (mem_idx _ _ _ _).mp hz
            have h3 := (List.getElem?_eq_some_iff.mp h2).1
            rw [List.length_take] at h3
            exact List.mem_range.mpr (by omega)
          rw [List.length_range] at h1
          have h3 := (List.getElem?_eq_some_iff.mp hcz).1
          have h4 : cellN t ns = (cellsOf t.way ns).length := rfl
          omega
        · rw [upd_same, ei, if_pos (decide_eq_true c), natV_snoc]
      · have c : ¬ z'.2.1 = x := fun e => c (decide_eq_true (by rw [e]))
        refine ⟨sm2, ?_⟩
        rw [ei, if_neg (by rw [decide_eq_false c]; exact Bool.false_ne_true), List.append_nil]
        exact hD2
    · rintro H1 ⟨sm, hD⟩
      refine k D H1 sm nD ?_
      have e4 : (cellsOf t.way ns).take (zs.map fun z => V.ref z.1).length = cellsOf t.way ns := by
        rw [← e1, List.length_map]
        exact List.take_of_length_le (by rw [List.length_map]; exact Nat.le_refl _)
      rw [e4, own_eq t.way ns 0 x ok.nn hx] at hD
      rw [hD]
      simp only [Nat.zero_add]
/-! ### turned -/
end
end Fk

set_option Elab.async false
set_option linter.all false
set_option maxRecDepth 100000
set_option maxHeartbeats 4000000
namespace Fk
open PySem PySem.Spec PyProof.Rows L2
theorem sets_len (st : List Bool) (ts : List Nat) : ∀ bs : List Bool, (sets st bs ts).length = bs.length := by
  induction ts with
  | nil => intro bs; rfl
  | cons i r ih => intro bs; show (sets st (bs.set i _) r).length = _; rw [ih, List.length_set]
theorem sets_snoc (st bs : List Bool) (ts : List Nat) (i : Nat) : sets st bs (ts ++ [i]) = (sets st bs ts).set i (!st.getD i false) := by
  unfold sets
  rw [List.foldl_append]; rfl
abbrev TurnZ : Type := Addr × Nat
def TurnAt (H : Hp) (bs : List Bool) (z : TurnZ) : Prop := H z.1 = some (.tup [.int (z.2 : Int), .int (bitI (!bs.getD z.2 false))])
def TurnsAt (H : Hp) (tl : Addr) (bs : List Bool) (zs : List TurnZ) : Prop := H tl = some (.lst (zs.map fun z => V.ref z.1)) ∧ ∀ z ∈ zs, TurnAt H bs z
theorem TurnsAt.same {H H' : Hp} {tl : Addr} {bs : List Bool} {zs : List TurnZ} (h : TurnsAt H tl bs zs) (k : Same H H') : TurnsAt H' tl bs zs := ⟨k _ _ h.1, fun z hz => k _ _ (h.2 z hz)⟩
theorem ref_at {α : Type} {f : α → Addr} {zs : List α} {i : Nat} {y : V} (h : (zs.map fun z => V.ref (f z))[i]? = some y) : ∃ z, zs[i]? = some z ∧ y = .ref (f z) := by
  rw [List.getElem?_map] at h
  cases e : zs[i]? with
  | none => rw [e] at h; cases h
  | some z => rw [e] at h; exact ⟨z, rfl, (Option.some.inj h).symm⟩
section
variable {P : Program} {w : World} {K : PySem.W.Frag} {mg : Str → Option Value} {base : Heap} {f : Addr} {fd : FuncData} {C : Addr}
/-! ### turned -/
def spTurned (C : Addr) : Sp := fun vs H Q _ => ∃ (a st tl : Addr) (t : Tr) (ns : List Str) (bs : List Bool) (zs : List TurnZ), vs = [.ref a, .ref st, .ref tl] ∧ PlanAt H C a t ns ∧ StAt H st bs ∧ bs.length = cellN t ns ∧ TurnsAt H tl bs zs ∧ (∀ z ∈ zs, z.2 < bs.length) ∧
  ∀ q H', Same H H' → H q = none → StAt H' q (sets bs bs (zs.map (·.2))) → Q (.ref q) H'
theorem sc_Plan_turned : FnScope ["self", "state", "turns", "marks", "index", "mark"] ["self", "state", "turns"] (defScope (met 30 8)) := ⟨rfl, rfl, rfl, by decide +kernel, rfl, by decide +kernel, by decide +kernel⟩
theorem ok_turned (T : Free mg) (PC : PCls K C) (C_is_below : Cal P w K mg base 1 "is_below" spIsBelow) (M_check_state : Met P w K mg base 2 C "check_state" (spCheckState C)) (F : Std K "turned" "Plan.turned" (met 30 8) f fd) (hm : Meth K C "turned" f) : Met P w K mg base 3 C "turned" (spTurned C) := by
  have cl := PC.cl
  refine met_of F hm (fun _ _ _ _ _ _ us hl => match us, hl with | [_, _, _], _ => rfl) sc_Plan_turned (fun vs H Q E h => ?_) (fun cdv A outer s H vs Q E hr h => ?_)
  · obtain ⟨_, _, _, _, _, _, _, rfl, _⟩ := h; rfl
  · obtain ⟨a, st, tl, t, ns, bs, zs, rfl, pa, hs, hl, ht, hlt, k⟩ := h
    refine ⟨_, (pss_cons (ps_expr (pe_m M_check_state cl hr (pv 0) (pa_cons (pv 1) pa_nil)))
        (pss_cons (ps_set (i := 3) sc_Plan_turned.nd rfl (.inl rfl) (pe_callTy call_list_of (by rfl) T.list (by decide +kernel) (pa_cons (pv 1) pa_nil)))
        (pss_cons (ps_for PassesOwn.never rfl (pi_list (pv 2)) (pg_tup rfl (pgs_cons (pg_name (i := 4) sc_Plan_turned.nd rfl (.inl rfl)) (pgs_cons (pg_name (i := 5) sc_Plan_turned.nd rfl (.inl rfl)) pgs_nil))) (pss_cons (ps_if (PW.pt (pw_or (pt_not (pt_val (pe_f C_is_below hr (pa_cons (pv 4) (pa_cons (pe_callB call_len_seq (by rfl) T.len (by decide +kernel) (pa_cons (pv 3) pa_nil)) pa_nil))))) (pw_or1 (pt_not (pt_val (pe_f C_is_below hr (pa_cons (pv 5) (pa_cons (pe_ix ix_list (pe_fld (pv 0) rfl) (pv 4) (fun _ _ => rfl)) pa_nil)))))))) (pss_one ps_never) pss_nil)
        (pss_one (ps_asg (pv 5) (pg_sub (pv 3) (pv 4) set_list)))))
        (pss_one (ps_ret (pe_callTy call_tuple_of (by rfl) T.tuple (by decide +kernel) (pa_cons (pv 3) pa_nil))))))), ?_⟩
    have pa' := pa
    obtain ⟨dx, n, c, sz, v, wd, fl, lf, z, p⟩ := pa
    refine ⟨_, rfl, a, dx, _, rfl, p.ins, rfl, _, rfl, a, st, t, ns, bs, rfl, pa', hs, hl, fun H1 sm1 => ?_⟩
    refine ⟨_, rfl, st, _, rfl, .inr (SqT.of (sm1 _ _ hs)), fun l nl => ?_⟩
    have nlH : H l = none := sm1.free nl
    have sm2 : Same H (upd H1 l (.lst (bitV bs))) := sNew sm1 nl
    refine ⟨_, rfl, tl, rfl, ⟨_, SqL.of (sm2 _ _ ht.1)⟩, ?_⟩
    refine for_list (K := K) (a := tl) (xs := zs.map fun z => V.ref z.1) (fun i σ H' => ∃ v4 v5, σ = [some (.ref a), some (.ref st), some (.ref tl), some (.ref l), v4, v5] ∧ Same H H' ∧ H' l = some (.lst (bitV (sets bs bs ((zs.take i).map (·.2))))))
      ⟨none, none, rfl, sm2, upd_same⟩ (fun i σ H' _ ⟨_, _, _, sm, _⟩ => SqL.of (sm _ _ ht.1)) ?_ ?_
    · rintro i y σ H2 hi ⟨v4, v5, rfl, sm, hl2⟩
      obtain ⟨z, hz, rfl⟩ := ref_at hi
      have hzt := ht.2 z (List.mem_of_getElem? hz)
      have hz2 := hlt z (List.mem_of_getElem? hz)
      obtain ⟨b0, b1⟩ := bitI_bd (!bs.getD z.2 false)
      have slen : (sets bs bs ((zs.take i).map (·.2))).length = bs.length := sets_len _ _ _
      refine ⟨z.1, _, rfl, SqT.of (sm _ _ hzt), rfl, _, _, rfl, _, _, rfl, rfl, ?_⟩
      refine ⟨_, rfl, _, rfl, l, _, rfl, .inl (SqL.of hl2), (z.2 : Int), _, rfl, by omega, by rw [bitV_len, slen]; omega, _, rfl, iteF ?_⟩
      refine ⟨_, rfl, _, rfl, a, C, dx, _, .ref sz, rfl, sm _ _ p.ins, cl, PC.sizes, rfl, _, rfl, sz, _, _, .int 2, rfl, rfl, SqL.of (sm _ _ p.sizes), atI_nat ?_, _, 2, rfl, b0, b1, _, rfl, iteF ?_⟩
      · rw [List.getElem?_replicate, if_pos (by omega)]
      refine ⟨_, rfl, _, rfl, _, rfl, l, _, _, z.2, rfl, rfl, hl2, ixN_nat (by rw [bitV_len, slen]; exact hz2), ?_⟩
      refine ⟨_, _, rfl, sOwn sm nlH, ?_⟩
      rw [upd_same, take_snoc hz, List.map_append, List.map_cons, List.map_nil, sets_snoc, bitV_set]
    · rintro σ H2 ⟨v4, v5, rfl, sm, hl2⟩
      rw [List.length_map, List.take_length] at hl2
      refine ⟨_, rfl, l, _, rfl, .inl ⟨SqL.of hl2, fun q nq => ?_⟩⟩
      exact k q _ (sNew sm nq) (sm.free nq) upd_same
/-! ### _parity -/
def spParity (C : Addr) : Sp := fun vs H Q _ => ∃ (a st : Addr) (t : Tr) (ns : List Str) (bs G : List Bool), vs = [.ref a, .ref st, .str (enc G)] ∧ PlanAt H C a t ns ∧ TrOk t ns ∧ StAt H st bs ∧ bs.length = cellN t ns ∧ G ∈ t.forks [] ∧
  ∀ H', Same H H' → Q (.int (bitI (board t.way ns bs G))) H'
theorem sc_ForkPlan__parity : FnScope ["self", "state", "fork", "index"] ["self", "state", "fork"] (defScope (met 33 4)) := ⟨rfl, rfl, rfl, by decide +kernel, rfl, by decide +kernel, by decide +kernel⟩
theorem ok_parity (T : Free mg) (PC : PCls K C) (F : Std K "_parity" "ForkPlan._parity" (met 33 4) f fd) (hm : Meth K C "_parity" f) : Met P w K mg base 1 C "_parity" (spParity C) := by
  have cl := PC.cl
  refine met_of F hm (fun _ _ _ _ _ _ us hl => match us, hl with | [_, _, _], _ => rfl) sc_ForkPlan__parity (fun vs H Q E h => ?_) (fun cdv A outer s H vs Q E hr h => ?_)
  · obtain ⟨_, _, _, _, _, _, rfl, _⟩ := h; rfl
  · obtain ⟨a, st, t, ns, bs, G, rfl, ⟨dx, n, c, sz, v, wd, fl, lf, z, p⟩, ok, hs, hl, hG, k⟩ := h
    have hu := hu_of hr
    refine ⟨_, (pss_one (ps_ret (pe_op op_mod (pe_callB (cr_sum rfl) (by rfl) T.sum (by decide +kernel) (pa_cons (pe_lc rfl sc_ForkPlan__parity.nd (pi_list (pe_dget hu (pe_fld (pv 0) rfl) (pv 2) (fun _ _ => rfl))) (blkOk_by (own := [("index", 3)]) (N := ["self", "state", "fork", "index"]) (sc := defScope (met 33 4)) (by decide +kernel)) (fun _ _ _ _ _ => (pg_name (i := 3) sc_ForkPlan__parity.nd rfl (.inl rfl))) (fun _ _ _ _ _ => pts_nil) (fun _ _ _ _ _ => (pe_ix (show IxR _ (rIxT K) from ix_tup) (pv 1) (pv 3) (fun _ _ => rfl)))) pa_nil)) pe_int))), ?_⟩
    obtain ⟨kvs, e3, e4, e5⟩ := p.flags
    obtain ⟨q, e6, e7⟩ := e4 G hG
    refine ⟨_, rfl, a, C, dx, _, .ref fl, rfl, p.ins, cl, PC.flags, rfl, _, rfl, fl, _, rfl, e6 ▸ DGet.k (k := kS (enc G)) e3, q, rfl, ⟨_, SqL.of e7⟩, fun D hD => ?_⟩
    have Dq : q ≠ D := ne_of_none e7 hD
    have Ds : st ≠ D := ne_of_none hs hD
    have clen := ok.clen
    refine lc_it (walk_list (K := K) (a := q) (xs := natV (flags t.way ns G))) (fun j H1 => H1 = upd H D (.lst (((flags t.way ns G).take j).map fun i => V.int (bitI (bs.getD i false))))) (by simp) (fun j H1 _ e => e ▸ SqL.of (by rw [upd_ne Dq]; exact e7)) ?_ ?_
    · rintro j y H1 H2 hj rfl ⟨rfl, hy⟩
      rw [natV_at] at hy
      cases hi : (flags t.way ns G)[j]? with
      | none => rw [hi] at hy; cases hy
      | some i =>
        rw [hi] at hy
        cases Option.some.inj hy
        have il : i < bs.length := by rw [hl]; exact flags_lt t.way (List.mem_of_getElem? hi)
        refine ⟨rfl, _, rfl, _, rfl, st, _, _, _, rfl, rfl, SqT.of (by rw [upd_ne Ds]; exact hs), bitV_at il, _, upd_same, small_line' ?_, ?_⟩
        · rw [List.length_map]
          refine Nat.le_trans (List.length_take_le' _ _) ?_
          exact Nat.le_trans (flags_len t ns G) (by omega)
        · rw [upd_upd, List.take_add_one, hi, List.map_append]; rfl
    · rintro H1 rfl
      have el : (flags t.way ns G).take (natV (flags t.way ns G)).length = flags t.way ns G := List.take_of_length_le (Nat.le_of_eq (by unfold natV; rw [List.length_map]))
      refine ⟨D, (flags t.way ns G).map fun i => bitI (bs.getD i false), rfl, SqL.of (by rw [upd_same, el, List.map_map]; rfl), ?_⟩
      refine ⟨_, _, rfl, rfl, (by show (0 : Int) < 2; decide), ?_⟩
      have e8 := px_sum bs (flags t.way ns G)
      show Q (.int (_ % 2)) _
      rw [e8]
      exact k _ (sNew (Same.refl H) hD)
/-! ### _leaf_from -/
def spLeafFrom (C : Addr) : Sp := fun vs H Q _ => ∃ (a st : Addr) (t : Tr) (ns : List Str) (bs : List Bool), vs = [.ref a, .ref st, .str ""] ∧ PlanAt H C a t ns ∧ TrOk t ns ∧ StAt H st bs ∧ bs.length = cellN t ns ∧
  ∀ H', Same H H' → Q (.str (told t ns bs)) H'
theorem sc_ForkPlan__leaf_from : FnScope ["self", "state", "top", "place"] ["self", "state", "top"] (defScope (met 33 5)) := ⟨rfl, rfl, rfl, by decide +kernel, rfl, by decide +kernel, by decide +kernel⟩
theorem ok_leaf_from (T : Free mg) (PC : PCls K C) (M__parity : Met P w K mg base 1 C "_parity" (spParity C)) (F : Std K "_leaf_from" "ForkPlan._leaf_from" (met 33 5) f fd) (hm : Meth K C "_leaf_from" f) : Met P w K mg base 2 C "_leaf_from" (spLeafFrom C) := by
  have cl := PC.cl
  refine met_of F hm (fun _ _ _ _ _ _ us hl => match us, hl with | [_, _, _], _ => rfl) sc_ForkPlan__leaf_from (fun vs H Q E h => ?_) (fun cdv A outer s H vs Q E hr h => ?_)
  · obtain ⟨_, _, _, _, _, rfl, _⟩ := h; rfl
  · obtain ⟨a, st, t, ns, bs, rfl, pa, ok, hs, hl, k⟩ := h
    have hu := hu_of hr
    refine ⟨_, (pss_cons (ps_set (i := 3) sc_ForkPlan__leaf_from.nd rfl (.inl rfl) (pv 2))
        (pss_cons (ps_while PassesOwn.never (pt_cmp (pc_din hu (pv 3) (pe_fld (pv 0) rfl))) (pss_one (ps_set (i := 3) sc_ForkPlan__leaf_from.nd rfl (.inl rfl) (pe_op op_add_str (pv 3) (pe_callTy call_str_int (by rfl) T.str (by decide +kernel) (pa_cons (pe_m M__parity cl hr (pv 0) (pa_cons (pv 1) (pa_cons (pv 3) pa_nil))) pa_nil))))))
        (pss_one (ps_ret (pe_dget hu (pe_fld (pv 0) rfl) (pv 3) (fun _ _ => rfl)))))), ?_⟩
    have pa' := pa
    obtain ⟨dx, n, c, sz, v, wd, fl, lf, z, p⟩ := pa
    refine ⟨_, rfl, ?_⟩
    refine ⟨fun m σ H' => ∃ (wy : List Bool) (u : Tr), σ = [some (.ref a), some (.ref st), some (.str ""), some (.str (enc wy))] ∧ m = u.height ∧ t.sub wy = some u ∧ told t ns bs = u.tell (board t.way ns bs) wy ∧ Same H H',
      ⟨_, [], t, by rw [enc_nil]; rfl, rfl, t.sub_nil, rfl, Same.refl H⟩, ?_⟩
    rintro m σ H1 ⟨wy, u, rfl, rfl, hsub, htell, sm⟩
    obtain ⟨kvs, e3, e4, e5⟩ := p.flags.same sm
    obtain ⟨lvk, l3, l4, l5⟩ := p.leaves.same sm
    cases u with
    | leaf x =>
      have hno : wy ∉ t.forks [] := fun h => by
        obtain ⟨v', ev, l, r, e⟩ := (t.mem_forks [] wy).mp h
        rw [List.nil_append] at ev
        rw [← ev, hsub] at e; cases e
      refine ⟨_, rfl, _, rfl, a, C, dx, _, .ref fl, rfl, sm _ _ p.ins, cl, PC.flags, rfl, fl, none, rfl, e5 wy hno ▸ DGet.k (k := kS (enc wy)) e3, _, rfl, iteF ?_⟩
      refine ⟨_, rfl, a, C, dx, _, .ref lf, rfl, sm _ _ p.ins, cl, PC.leaves, rfl, _, rfl, lf, .str x, rfl, l4 wy x hsub ▸ DGet.k (k := kS (enc wy)) l3, ?_⟩
      rw [← show told t ns bs = x from htell]
      exact k H1 sm
    | fork l r =>
      have hfk : wy ∈ t.forks [] := (t.mem_forks [] wy).mpr ⟨wy, rfl, l, r, hsub⟩
      obtain ⟨q, e6, e7⟩ := e4 wy hfk
      obtain ⟨n1, n2⟩ := Tr.tell_step (b := board t.way ns bs) hsub
      have hwl : wy.length ≤ 11 := by
        have h1 := t.sub_height wy _ hsub
        have h2 := ok.height
        omega
      refine ⟨_, rfl, _, rfl, a, C, dx, _, .ref fl, rfl, sm _ _ p.ins, cl, PC.flags, rfl, fl, some (.ref q), rfl, e6 ▸ DGet.k (k := kS (enc wy)) e3, _, rfl, iteT ?_⟩
      refine ⟨fun σ' H' => ∃ m', m' < (Tr.fork l r).height ∧ ∃ (wy : List Bool) (u : Tr), σ' = [some (.ref a), some (.ref st), some (.str ""), some (.str (enc wy))] ∧ m' = u.height ∧ t.sub wy = some u ∧ told t ns bs = u.tell (board t.way ns bs) wy ∧ Same H H', fun _ _ h => h, ?_⟩
      refine ⟨_, rfl, _, rfl, a, dx, _, rfl, sm _ _ p.ins, rfl, _, rfl, _, rfl, a, st, t, ns, bs, wy, rfl, pa'.same sm, ok, hs.same sm, hl, hfk, fun H2 sm2 => ?_⟩
      refine ⟨_, rfl, ?_, ?_⟩
      · cases board t.way ns bs wy <;> decide +kernel
      rw [enc_bit]
      refine ⟨_, _, rfl, rfl, small_line (n := (enc wy).length + 1) (by rw [enc_len]; omega), ?_⟩
      refine ⟨_, ?_, wy ++ [board t.way ns bs wy], _, by rw [enc_cat]; rfl, rfl, n1, htell.trans n2, sm.trans sm2⟩
      cases board t.way ns bs wy <;> simp [Tr.height] <;> omega
end
end Fk

set_option Elab.async false
set_option linter.all false
set_option maxRecDepth 100000
set_option maxHeartbeats 4000000
namespace Fk
open PySem PySem.Spec PyProof.Rows L2
section
variable {P : Program} {w : World} {K : PySem.W.Frag} {mg : Str → Option Value} {base : Heap} {f : Addr} {fd : FuncData} {C : Addr}
/-! ### told -/
def spTold (C : Addr) : Sp := fun vs H Q _ => ∃ (a st : Addr) (t : Tr) (ns : List Str) (bs : List Bool), vs = [.ref a, .ref st] ∧ PlanAt H C a t ns ∧ TrOk t ns ∧ StAt H st bs ∧ bs.length = cellN t ns ∧ ∀ H', Same H H' → Q (.str (told t ns bs)) H'
theorem sc_ForkPlan_told : FnScope ["self", "state"] ["self", "state"] (defScope (met 33 9)) := ⟨rfl, rfl, rfl, by decide +kernel, rfl, by decide +kernel, by decide +kernel⟩
theorem ok_told (PC : PCls K C) (M_check_state : Met P w K mg base 2 C "check_state" (spCheckState C)) (M__leaf_from : Met P w K mg base 2 C "_leaf_from" (spLeafFrom C)) (F : Std K "told" "ForkPlan.told" (met 33 9) f fd) (hm : Meth K C "told" f) : Met P w K mg base 3 C "told" (spTold C) := by
  have cl := PC.cl
  refine met_of F hm (fun _ _ _ _ _ _ us hl => match us, hl with | [_, _], _ => rfl) sc_ForkPlan_told (fun vs H Q E h => ?_) (fun cdv A outer s H vs Q E hr h => ?_)
  · obtain ⟨_, _, _, _, _, rfl, _⟩ := h; rfl
  · obtain ⟨a, st, t, ns, bs, rfl, pa, ok, hs, hl, k⟩ := h
    refine ⟨_, (pss_cons (ps_expr (pe_m M_check_state cl hr (pv 0) (pa_cons (pv 1) pa_nil)))
        (pss_one (ps_ret (pe_m M__leaf_from cl hr (pv 0) (pa_cons (pv 1) (pa_cons pe_str pa_nil)))))), ?_⟩
    have pa' := pa
    obtain ⟨dx, n, c, sz, v, wd, fl, lf, z, p⟩ := pa
    refine ⟨_, rfl, a, dx, _, rfl, p.ins, rfl, _, rfl, a, st, t, ns, bs, rfl, pa', hs, hl, fun H1 sm1 => ?_⟩
    refine ⟨_, rfl, a, dx, _, rfl, sm1 _ _ p.ins, rfl, _, rfl, a, st, t, ns, bs, rfl, pa'.same sm1, ok, hs.same sm1, hl, fun H2 sm2 => k H2 (sm1.trans sm2)⟩
/-! ### wrong_forks -/
def spWrong (C : Addr) : Sp := fun vs H Q _ => ∃ (a st : Addr) (t : Tr) (ns : List Str) (bs : List Bool) (x : Str), vs = [.ref a, .ref st, .str x] ∧ PlanAt H C a t ns ∧ TrOk t ns ∧ StAt H st bs ∧ bs.length = cellN t ns ∧ x ∈ ns ∧
  ∀ q H', Same H H' → H q = none → H' q = some (.lst ((wrongs t.way ns bs x).map fun l => V.str (enc ((t.way x).take l)))) → Q (.ref q) H'
theorem sc_ForkPlan_wrong_forks : FnScope ["self", "state", "writer", "way", "levels", "level"] ["self", "state", "writer"] (defScope (met 33 11)) := ⟨rfl, rfl, rfl, by decide +kernel, rfl, by decide +kernel, by decide +kernel⟩
theorem ok_wrong (T : Free mg) (PC : PCls K C) (M_check_state : Met P w K mg base 2 C "check_state" (spCheckState C)) (M_check_writer : Met P w K mg base 1 C "check_writer" (spCheckWriter C)) (M__parity : Met P w K mg base 1 C "_parity" (spParity C))
    (F : Std K "wrong_forks" "ForkPlan.wrong_forks" (met 33 11) f fd) (hm : Meth K C "wrong_forks" f) : Met P w K mg base 3 C "wrong_forks" (spWrong C) := by
  have cl := PC.cl
  refine met_of F hm (fun _ _ _ _ _ _ us hl => match us, hl with | [_, _, _], _ => rfl) sc_ForkPlan_wrong_forks (fun vs H Q E h => ?_) (fun cdv A outer s H vs Q E hr h => ?_)
  · obtain ⟨_, _, _, _, _, _, rfl, _⟩ := h; rfl
  · obtain ⟨a, st, t, ns, bs, x, rfl, pa, ok, hs, hl, hx, k⟩ := h
    have hu := hu_of hr
    refine ⟨_, (pss_cons (ps_expr (pe_m M_check_state cl hr (pv 0) (pa_cons (pv 1) pa_nil)))
        (pss_cons (ps_expr (pe_m M_check_writer cl hr (pv 0) (pa_cons (pv 2) pa_nil)))
        (pss_cons (ps_set (i := 3) sc_ForkPlan_wrong_forks.nd rfl (.inr rfl) (pe_dget hu (pe_fld (pv 0) rfl) (pv 2) (fun _ _ => rfl)))
        (pss_cons (ps_set (i := 4) sc_ForkPlan_wrong_forks.nd rfl (.inl rfl) (pe_revV (by rfl) T.rev (by rfl) T.range (pe_callB call_len_str (by rfl) T.len (by decide +kernel) (pa_cons (pv 3) pa_nil))))
        (pss_one (ps_ret (pe_lc rfl sc_ForkPlan_wrong_forks.nd (pi_revV (k := 4) rfl (.inl rfl)) (blkOk_by (own := [("level", 5)]) (N := ["self", "state", "writer", "way", "levels", "level"]) (sc := defScope (met 33 11)) (by decide +kernel)) (fun _ _ _ _ _ => (pg_name (i := 5) sc_ForkPlan_wrong_forks.nd rfl (.inl rfl))) (fun _ _ _ _ _ => (pts_one (pt_cmpR op_ne (pe_callTy call_str_int (by rfl) T.str (by decide +kernel) (pa_cons (pe_m M__parity cl hr (pv 0) (pa_cons (pv 1) (pa_cons (pe_slice sl_str (pv 3) po_none (po_some (pv 5))) pa_nil))) pa_nil)) (pe_ix ix_str (pv 3) (pv 5) (fun _ _ => rfl)) (nomark _)))) (fun _ _ _ _ _ => (pe_slice sl_str (pv 3) po_none (po_some (pv 5))))))))))), ?_⟩
    have pa' := pa
    obtain ⟨dx, n, c, sz, v, wd, fl, lf, z, p⟩ := pa
    refine ⟨_, rfl, a, dx, _, rfl, p.ins, rfl, _, rfl, a, st, t, ns, bs, rfl, pa', hs, hl, fun H1 sm1 => ?_⟩
    refine ⟨_, rfl, a, dx, _, rfl, sm1 _ _ p.ins, rfl, _, rfl, a, t, ns, x, rfl, pa'.same sm1, hx, ?_⟩
    have hxl := ok.mem.mp hx
    have dw : DGet H1 wd (.str x) (some (.str (enc (t.way x)))) := by
      have := DGet.k (k := kS x) (sm1 _ _ p.ways)
      rwa [way_val ok.nd hxl] at this
    have wl := ok.wlen hxl
    refine ⟨_, rfl, a, C, dx, _, .ref wd, rfl, sm1 _ _ p.ins, cl, PC.ways, rfl, _, rfl, wd, _, rfl, dw, ?_⟩
    refine ⟨_, rfl, _, rfl, small_line (n := (enc (t.way x)).length) (by rw [enc_len]; omega), _, rfl, rfl, (enc (t.way x)).length, rfl, by rw [enc_len]; omega, fun it nit hit => ?_⟩
    refine ⟨it, _, rfl, upd_same, hit, fun D nD => ?_⟩
    rw [ItX.dropH_upd nit] at nD ⊢
    have en : (enc (t.way x)).length = (t.way x).length := enc_len _
    refine lc_it (walk_rangeC (lo := ((enc (t.way x)).length : Int) - 1) (c := -1) (n := (enc (t.way x)).length)) (fun i H' => Same H1 H' ∧ H' D = some (.lst ((((List.range (t.way x).length).reverse.take i).filter fun l => board t.way ns bs ((t.way x).take l) != (t.way x).getD l false).map fun l => V.str (enc ((t.way x).take l))))) ⟨sNew (Same.refl H1) nD, upd_same⟩ (fun _ _ _ _ => trivial) ?_ ?_
    · rintro i y H2 H3 hi ⟨sm2, hD⟩ ⟨rfl, hy⟩
      obtain ⟨l, el⟩ : ∃ l : Nat, l = (t.way x).length - 1 - i := ⟨_, rfl⟩
      have lw : l < (t.way x).length := by omega
      have ey : ((enc (t.way x)).length : Int) - 1 + (i : Nat) * (-1) = (l : Int) := by rw [en]; omega
      obtain rfl : y = .int (l : Int) := hy.trans (congrArg V.int ey)
      have hrl : (List.range (t.way x).length).reverse[i]? = some l := by
        rw [List.getElem?_reverse (by rw [List.length_range]; omega), List.length_range, List.getElem?_range (by omega)]
        exact congrArg some el.symm
      have hG : (t.way x).take l ∈ t.forks [] := fork_of_cell ok.nd hxl lw
      have sm3 := sm1.trans sm2
      refine ⟨rfl, _, rfl, a, dx, _, rfl, sm3 _ _ p.ins, rfl, _, rfl, _, rfl, _, rfl, _, rfl, _, rfl, small_line (n := (enc (t.way x)).length) (by omega), a, st, t, ns, bs, (t.way x).take l, by rw [enc_take]; rfl, pa'.same sm3, ok, hs.same sm3, hl, hG, fun H4 sm4 => ?_⟩
      refine ⟨_, rfl, (by cases board t.way ns bs ((t.way x).take l) <;> decide +kernel), ?_⟩
      refine ⟨_, rfl, _, rfl, _, _, _, rfl, rfl, small_line (n := (enc (t.way x)).length) (by omega), enc_at lw, rfl, _, rfl, ?_⟩
      rw [enc_bit, sign_enc]
      have D4 := sm4 _ _ hD
      have e1 : (List.range (t.way x).length).reverse.take (i + 1) = (List.range (t.way x).length).reverse.take i ++ [l] := take_snoc hrl
      refine ite2 (fun c => ?_) (fun c => ?_)
      · have hb : (board t.way ns bs ((t.way x).take l) != (t.way x).getD l false) = true := by
          rw [bne_iff_ne]
          intro e
          rw [e, decide_eq_true rfl] at c
          cases c
        refine ⟨_, rfl, _, rfl, _, rfl, _, rfl, small_line (n := (enc (t.way x)).length) (by omega), _, D4, small_line' ?_, sOwn (sm2.trans sm4) nD, ?_⟩
        · rw [List.length_map]
          refine Nat.le_trans (List.length_filter_le _ _) ?_
          rw [List.length_take, List.length_reverse, List.length_range]; omega
        · rw [upd_same, e1, List.filter_append, List.map_append, List.filter_cons_of_pos (p := fun l => board t.way ns bs ((t.way x).take l) != (t.way x).getD l false) (a := l) hb, enc_take]; rfl
      · have hb : ¬ (board t.way ns bs ((t.way x).take l) != (t.way x).getD l false) = true := fun h => c (by
          rw [bne_iff_ne] at h
          have : ¬ (V.str (enc [board t.way ns bs ((t.way x).take l)]) = V.str (enc [(t.way x).getD l false])) := fun e => h (List.cons.inj (enc_inj (V.str.inj e))).1
          rw [decide_eq_false this]; rfl)
        refine ⟨sm2.trans sm4, ?_⟩
        rw [e1, List.filter_append, List.filter_cons_of_neg (p := fun l => board t.way ns bs ((t.way x).take l) != (t.way x).getD l false) (a := l) hb, List.filter_nil, List.append_nil]
        exact D4
    · rintro H2 ⟨sm2, hD⟩
      have e4 : (List.range (t.way x).length).reverse.take (enc (t.way x)).length = (List.range (t.way x).length).reverse := List.take_of_length_le (by rw [List.length_reverse, List.length_range, en]; exact Nat.le_refl _)
      rw [e4] at hD
      exact k D H2 (sm1.trans sm2) (sm1.free nD) hD
/-! ### turns -/
theorem not_bit (b : Bool) : 1 - bitI b = bitI (!b) := by cases b <;> rfl
def spTurns (C : Addr) : Sp := fun vs H Q _ => ∃ (a st : Addr) (t : Tr) (ns : List Str) (bs : List Bool) (x : Str), vs = [.ref a, .ref st, .str x] ∧ PlanAt H C a t ns ∧ TrOk t ns ∧ StAt H st bs ∧ bs.length = cellN t ns ∧ x ∈ ns ∧
  ∀ q H' zs, Same H H' → H q = none → TurnsAt H' q bs zs → zs.map (·.2) = turnIx t.way ns bs x → Q (.ref q) H'
theorem sc_ForkPlan_turns : FnScope ["self", "state", "writer", "wrong", "own", "flags", "fork", "index"] ["self", "state", "writer"] (defScope (met 33 12)) := ⟨rfl, rfl, rfl, by decide +kernel, rfl, by decide +kernel, by decide +kernel⟩
theorem ok_turns (T : Free mg) (PC : PCls K C) (M_wrong_forks : Met P w K mg base 3 C "wrong_forks" (spWrong C)) (M_cells_of : Met P w K mg base 2 C "cells_of" (spCellsOf C)) (F : Std K "turns" "ForkPlan.turns" (met 33 12) f fd) (hm : Meth K C "turns" f) : Met P w K mg base 4 C "turns" (spTurns C) := by
  have cl := PC.cl
  refine met_of F hm (fun _ _ _ _ _ _ us hl => match us, hl with | [_, _, _], _ => rfl) sc_ForkPlan_turns (fun vs H Q E h => ?_) (fun cdv A outer s H vs Q E hr h => ?_)
  · obtain ⟨_, _, _, _, _, _, rfl, _⟩ := h; rfl
  · obtain ⟨a, st, t, ns, bs, x, rfl, pa, ok, hs, hl, hx, k⟩ := h
    refine ⟨_, (pss_cons (ps_set (i := 3) sc_ForkPlan_turns.nd rfl (.inl rfl) (pe_m M_wrong_forks cl hr (pv 0) (pa_cons (pv 1) (pa_cons (pv 2) pa_nil))))
        (pss_cons (ps_set (i := 4) sc_ForkPlan_turns.nd rfl (.inr rfl) (pe_m M_cells_of cl hr (pv 0) (pa_cons (pv 2) pa_nil)))
        (pss_cons (ps_setLc (i := 5) rfl sc_ForkPlan_turns.nd rfl rfl (sw_true rfl rfl rfl (by decide +kernel)) (pi_list (pv 3)) (blkOk_by (own := [("fork", 6)]) (N := ["self", "state", "writer", "wrong", "own", "flags", "fork", "index"]) (sc := defScope (met 33 12)) (by decide +kernel)) (fun _ _ _ _ _ => (pg_name (i := 6) sc_ForkPlan_turns.nd rfl (.inl rfl))) (fun _ _ _ _ _ => pts_nil) (fun _ _ _ _ _ => (pe_ix (show IxR _ (rIxL K) from ix_list) (pv 4) (pe_callB call_len_str (by rfl) T.len (by decide +kernel) (pa_cons (pv 6) pa_nil)) (fun _ _ => rfl))))
        (pss_one (ps_ret (pe_lc rfl sc_ForkPlan_turns.nd (pi_list (pv 5)) (blkOk_by (own := [("index", 7)]) (N := ["self", "state", "writer", "wrong", "own", "flags", "fork", "index"]) (sc := defScope (met 33 12)) (by decide +kernel)) (fun _ _ _ _ _ => (pg_name (i := 7) sc_ForkPlan_turns.nd rfl (.inl rfl))) (fun _ _ _ _ _ => pts_nil) (fun _ _ _ _ _ => (pe_tup (pa_cons (pv 7) (pa_cons (pe_op op_sub pe_int (pe_ix (show IxR _ (rIxT K) from ix_tup) (pv 1) (pv 7) (fun _ _ => rfl))) pa_nil)))))))))), ?_⟩
    have pa' := pa
    obtain ⟨dx, n, c, sz, v, wd, fl, lf, z, p⟩ := pa
    have hxl := ok.mem.mp hx
    have wl := ok.wlen hxl
    refine ⟨_, rfl, a, dx, _, rfl, p.ins, rfl, _, rfl, _, rfl, a, st, t, ns, bs, x, rfl, pa', ok, hs, hl, hx, fun q1 H1 sm1 nq1 hq1 => ?_⟩
    refine ⟨_, rfl, a, dx, _, rfl, sm1 _ _ p.ins, rfl, _, rfl, a, t, ns, x, rfl, pa'.same sm1, ok, hx, fun q2 H2 sm2 nq2 hq2 => ?_⟩
    have sm := sm1.trans sm2
    have hq1' := sm2 _ _ hq1
    have wlen : (wrongs t.way ns bs x).length ≤ 11 := by
      have h1 := List.length_filter_le (fun l => board t.way ns bs ((t.way x).take l) != (t.way x).getD l false) (List.range (t.way x).length).reverse
      rw [List.length_reverse, List.length_range] at h1
      exact Nat.le_trans h1 wl
    -- flags
    refine ⟨_, rfl, q1, rfl, ⟨_, SqL.of hq1'⟩, fun D nD => ?_⟩
    have q1D : q1 ≠ D := ne_of_none hq1' nD
    have q2D : q2 ≠ D := ne_of_none hq2 nD
    refine lc_it (walk_list (K := K) (a := q1) (xs := (wrongs t.way ns bs x).map fun l => V.str (enc ((t.way x).take l)))) (fun i H' => H' = upd H2 D (.lst (natV ((turnIx t.way ns bs x).take i)))) rfl (fun i H' _ e => e ▸ SqL.of (by rw [upd_ne q1D]; exact hq1')) ?_ ?_
    · rintro i y H3 H4 hi rfl ⟨rfl, hy⟩
      rw [List.getElem?_map] at hy
      cases e : (wrongs t.way ns bs x)[i]? with
      | none => rw [e] at hy; cases hy
      | some l =>
        rw [e] at hy
        cases Option.some.inj hy
        have lw := wrongs_lt t.way ns bs (List.mem_of_getElem? e)
        have el : (enc ((t.way x).take l)).length = l := by rw [enc_len, List.length_take]; omega
        have ht : (turnIx t.way ns bs x)[i]? = some (beg t.way ns x + l) := by
          unfold turnIx
          rw [List.getElem?_map, e]; rfl
        refine ⟨rfl, _, rfl, _, rfl, _, rfl, small_line (by omega), q2, _, _, .int ((beg t.way ns x + l : Nat) : Int), rfl, rfl, SqL.of (by rw [upd_ne q2D]; exact hq2), ?_, _, upd_same, small_line' ?_, ?_⟩
        · rw [el]
          refine atI_nat ?_
          unfold natV
          rw [List.getElem?_map, List.getElem?_map, List.getElem?_range lw]; rfl
        · unfold natV
          rw [List.length_map]
          refine Nat.le_trans (List.length_take_le' _ _) ?_
          unfold turnIx
          rw [List.length_map]; omega
        · rw [upd_upd, take_snoc ht, natV_snoc]
    · rintro H3 rfl
      have e4 : (turnIx t.way ns bs x).take ((wrongs t.way ns bs x).map fun l => V.str (enc ((t.way x).take l))).length = turnIx t.way ns bs x := List.take_of_length_le (by unfold turnIx; rw [List.length_map, List.length_map]; exact Nat.le_refl _)
      rw [e4]
      have sm3 : Same H (upd H2 D (.lst (natV (turnIx t.way ns bs x)))) := sNew sm nD
      -- the pairs
      refine ⟨_, rfl, D, rfl, ⟨_, SqL.of upd_same⟩, fun D2 nD2 => ?_⟩
      have DD : D ≠ D2 := ne_of_none upd_same nD2
      refine lc_it (walk_list (K := K) (a := D) (xs := natV (turnIx t.way ns bs x))) (fun i H' => ∃ zs : List TurnZ, Same (upd H2 D (.lst (natV (turnIx t.way ns bs x)))) H' ∧ TurnsAt H' D2 bs zs ∧ zs.map (·.2) = (turnIx t.way ns bs x).take i)
        ⟨[], sNew (Same.refl _) nD2, ⟨upd_same, fun z hz => nomatch hz⟩, rfl⟩ (fun i H' _ ⟨_, s', _⟩ => SqL.of (s' _ _ upd_same)) ?_ ?_
      · rintro i y H3 H4 hi ⟨zs, s4, hz4, hm4⟩ ⟨rfl, hy⟩
        rw [natV_at] at hy
        cases e : (turnIx t.way ns bs x)[i]? with
        | none => rw [e] at hy; cases hy
        | some j =>
          rw [e] at hy
          cases Option.some.inj hy
          have hj : j < bs.length := by rw [hl]; exact turnIx_lt t.way ns bs hx (List.mem_of_getElem? e)
          refine ⟨rfl, _, rfl, _, rfl, _, rfl, st, _, _, _, rfl, rfl, SqT.of (s4 _ _ (sm3 _ _ hs)), bitV_at hj, _, _, rfl, rfl, (by show 2 ≤ sizeLine; decide), fun p2 np2 => ?_⟩
          have hD2 : (upd H4 p2 (.tup [.int (j : Int), .int (1 - bitI (bs.getD j false))])) D2 = some (.lst (zs.map fun z => V.ref z.1)) := by rw [upd_ne (ne_of_none hz4.1 np2)]; exact hz4.1
          refine ⟨_, hD2, small_line' ?_, zs ++ [(p2, j)], sOwn (sNew s4 np2) nD2, ⟨by rw [upd_same, List.map_append]; rfl, fun z' hz' => ?_⟩, ?_⟩
          · have := congrArg List.length hm4
            rw [List.length_map, List.length_take] at this
            rw [List.length_map]
            have h2 : (turnIx t.way ns bs x).length ≤ 11 := by unfold turnIx; rw [List.length_map]; exact wlen
            omega
          · have pD : p2 ≠ D2 := Ne.symm (ne_of_none hz4.1 np2)
            rcases List.mem_append.mp hz' with h | h
            · have := hz4.2 z' h
              unfold TurnAt at this ⊢
              rw [upd_ne (ne_of this hz4.1 (by intro z; cases z)), upd_ne (ne_of_none this np2)]; exact this
            · have : z' = (p2, j) := by simpa using h
              subst this
              unfold TurnAt
              rw [upd_ne pD, upd_same, ← not_bit]
          · rw [List.map_append, hm4, take_snoc e]; rfl
      · rintro H3 ⟨zs, s4, hz4, hm4⟩
        refine k D2 H3 zs (sm3.trans s4) (sm3.free nD2) hz4 ?_
        rw [hm4]
        exact List.take_of_length_le (by unfold natV; rw [List.length_map]; exact Nat.le_refl _)
/-! ### overlapped -/
def spOver (C : Addr) : Sp := fun vs H Q _ => ∃ (a st : Addr) (t : Tr) (ns : List Str) (bs : List Bool) (x y : Str), vs = [.ref a, .ref st, .str x, .str y] ∧ PlanAt H C a t ns ∧ TrOk t ns ∧ StAt H st bs ∧ bs.length = cellN t ns ∧ x ∈ ns ∧ y ∈ ns ∧ x ≠ y ∧
  ∀ q H', Same H H' → H q = none → StAt H' q (after2 t ns bs x y) → Q (.ref q) H'
theorem sc_overlapped : FnScope ["plan", "state", "first", "second", "first_turns", "second_turns"] ["plan", "state", "first", "second"] (defScope (top 11)) := ⟨rfl, rfl, rfl, by decide +kernel, rfl, by decide +kernel, by decide +kernel⟩
theorem ok_over (PC : PCls K C) (M_turns : Met P w K mg base 4 C "turns" (spTurns C)) (M_turned : Met P w K mg base 3 C "turned" (spTurned C)) (F : Std K "overlapped" "overlapped" (top 11) f fd) (hm : mg "overlapped" = some (.ref f)) : Cal P w K mg base 5 "overlapped" (spOver C) := by
  have cl := PC.cl
  refine cal_of F hm (fun _ _ _ _ _ _ us hl => match us, hl with | [_, _, _, _], _ => rfl) sc_overlapped (fun vs H Q E h => ?_) (fun cdv A outer s H vs Q E hr h => ?_)
  · obtain ⟨_, _, _, _, _, _, _, rfl, _⟩ := h; rfl
  · obtain ⟨a, st, t, ns, bs, x, y, rfl, pa, ok, hs, hl, hx, hy, ne, k⟩ := h
    refine ⟨_, (pss_cons (ps_set (i := 4) sc_overlapped.nd rfl (.inl rfl) (pe_m M_turns cl hr (pv 0) (pa_cons (pv 1) (pa_cons (pv 2) pa_nil))))
        (pss_cons (ps_set (i := 5) sc_overlapped.nd rfl (.inl rfl) (pe_m M_turns cl hr (pv 0) (pa_cons (pv 1) (pa_cons (pv 3) pa_nil))))
        (pss_cons (ps_if (pt_cmpR op_eq (pv 2) (pv 3) (nomark _)) (pss_one ps_never) pss_nil)
        (pss_one (ps_ret (pe_m M_turned cl hr (pv 0) (pa_cons (pv 1) (pa_cons (pe_op op_cat (pv 4) (pv 5)) pa_nil)))))))), ?_⟩
    have pa' := pa
    obtain ⟨dx, n, c, sz, v, wd, fl, lf, z, p⟩ := pa
    refine ⟨_, rfl, a, dx, _, rfl, p.ins, rfl, _, rfl, _, rfl, a, st, t, ns, bs, x, rfl, pa', ok, hs, hl, hx, fun q1 H1 zs1 sm1 nq1 hz1 hm1 => ?_⟩
    refine ⟨_, rfl, a, dx, _, rfl, sm1 _ _ p.ins, rfl, _, rfl, _, rfl, a, st, t, ns, bs, y, rfl, pa'.same sm1, ok, hs.same sm1, hl, hy, fun q2 H2 zs2 sm2 nq2 hz2 hm2 => ?_⟩
    have sm := sm1.trans sm2
    refine ⟨_, rfl, _, rfl, rfl, _, rfl, ite2 (fun c => absurd (V.str.inj (of_decide_eq_true c)) ne) (fun _ => ?_)⟩
    have hz1' := hz1.same sm2
    refine ⟨_, rfl, a, dx, _, rfl, sm _ _ p.ins, rfl, _, rfl, _, rfl, _, rfl, q1, q2, _, _, rfl, rfl, hz1'.1, hz2.1, small_line ?_, fun q3 nq3 => ?_⟩
    · have h1 := congrArg List.length hm1
      have h2 := congrArg List.length hm2
      have w1 : ∀ u, u ∈ ns → (turnIx t.way ns bs u).length ≤ 11 := fun u hu => by
        unfold turnIx wrongs
        rw [List.length_map]
        refine Nat.le_trans (List.length_filter_le _ _) ?_
        rw [List.length_reverse, List.length_range]
        exact ok.wlen (ok.mem.mp hu)
      have := w1 x hx
      have := w1 y hy
      rw [List.length_map] at h1 h2
      rw [List.length_map, List.length_map]
      omega
    have sm3 := sNew (o := .lst ((zs1.map fun z => V.ref z.1) ++ zs2.map fun z => V.ref z.1)) sm nq3
    have smN := sNew (o := .lst ((zs1.map fun z => V.ref z.1) ++ zs2.map fun z => V.ref z.1)) (Same.refl H2) nq3
    have em : (zs1 ++ zs2).map (·.2) = turnIx t.way ns bs x ++ turnIx t.way ns bs y := by rw [List.map_append, hm1, hm2]
    have hlt : ∀ i ∈ (zs1 ++ zs2).map (·.2), i < bs.length := fun i hi => by
      rw [em] at hi
      rw [hl]
      rcases List.mem_append.mp hi with h | h
      · exact turnIx_lt t.way ns bs hx h
      · exact turnIx_lt t.way ns bs hy h
    refine ⟨a, st, q3, t, ns, bs, zs1 ++ zs2, rfl, pa'.same sm3, hs.same sm3, hl, ⟨by rw [upd_same, List.map_append], fun z hz => ?_⟩, fun z hz => hlt _ (List.mem_map.mpr ⟨z, hz, rfl⟩), fun q H' sm' nq hq => ?_⟩
    · rcases List.mem_append.mp hz with h | h
      · exact smN _ _ (hz1'.2 z h)
      · exact smN _ _ (hz2.2 z h)
    · refine k q H' (sm3.trans sm') (sm3.free nq) ?_
      rw [sets_togs bs _ bs (by rw [em]; exact both_nodup t.way ns bs hx hy ne) hlt (fun _ _ => rfl), em] at hq
      exact hq
/-! ### loses -/
def spLoses (C : Addr) : Sp := fun vs H Q _ => ∃ (a st : Addr) (t : Tr) (ns : List Str) (bs : List Bool) (x y : Str), vs = [.ref a, .ref st, .str x, .str y] ∧ PlanAt H C a t ns ∧ TrOk t ns ∧ StAt H st bs ∧ bs.length = cellN t ns ∧ x ∈ ns ∧ y ∈ ns ∧ x ≠ y ∧
  ∀ H', Same H H' → Q (.bl (!decide (told t ns (after2 t ns bs x y) ∈ [x, y]))) H'
theorem sc_loses : FnScope ["plan", "state", "first", "second", "after"] ["plan", "state", "first", "second"] (defScope (top 12)) := ⟨rfl, rfl, rfl, by decide +kernel, rfl, by decide +kernel, by decide +kernel⟩
theorem ok_loses (PC : PCls K C) (C_overlapped : Cal P w K mg base 5 "overlapped" (spOver C)) (M_told : Met P w K mg base 3 C "told" (spTold C)) (F : Std K "loses" "loses" (top 12) f fd) (hm : mg "loses" = some (.ref f)) : Cal P w K mg base 6 "loses" (spLoses C) := by
  have cl := PC.cl
  refine cal_of F hm (fun _ _ _ _ _ _ us hl => match us, hl with | [_, _, _, _], _ => rfl) sc_loses (fun vs H Q E h => ?_) (fun cdv A outer s H vs Q E hr h => ?_)
  · obtain ⟨_, _, _, _, _, _, _, rfl, _⟩ := h; rfl
  · obtain ⟨a, st, t, ns, bs, x, y, rfl, pa, ok, hs, hl, hx, hy, ne, k⟩ := h
    refine ⟨_, (pss_cons (ps_set (i := 4) sc_loses.nd rfl (.inl rfl) (pe_f C_overlapped hr (pa_cons (pv 0) (pa_cons (pv 1) (pa_cons (pv 2) (pa_cons (pv 3) pa_nil))))))
        (pss_one (ps_ret (pe_cmpR op_notIn_seq (pe_m M_told cl hr (pv 0) (pa_cons (pv 4) pa_nil)) (pe_tup (pa_cons (pv 2) (pa_cons (pv 3) pa_nil))) (by rfl))))), ?_⟩
    have pa' := pa
    obtain ⟨dx, n, c, sz, v, wd, fl, lf, z, p⟩ := pa
    refine ⟨_, rfl, _, rfl, _, rfl, _, rfl, a, st, t, ns, bs, x, y, rfl, pa', ok, hs, hl, hx, hy, ne, fun q H1 sm1 nq hq => ?_⟩
    refine ⟨_, rfl, a, dx, _, rfl, sm1 _ _ p.ins, rfl, _, rfl, a, q, t, ns, _, rfl, pa'.same sm1, ok, hq, by unfold after2; rw [togs_len]; exact hl, fun H2 sm2 => ?_⟩
    refine ⟨_, rfl, _, rfl, (by show 2 ≤ sizeLine; decide), fun u nu => ?_⟩
    refine ⟨u, _, rfl, .inr (SqT.of upd_same), rfl, rfl, ?_⟩
    have e := inV_str (told t ns (after2 t ns bs x y)) [x, y]
    show Q (.bl (!inV (.str (told t ns (after2 t ns bs x y))) ([x, y].map V.str))) _
    rw [e]
    exact k _ (sNew (sm1.trans sm2) nu)
end
end Fk

set_option Elab.async false
set_option linter.all false
set_option maxRecDepth 100000
set_option maxHeartbeats 4000000
namespace Fk
open PySem PySem.Spec PyProof.Rows L2
/-! ### two sorted lists of the same names are one -/
def leS (x y : Str) : Prop := ¬ y.cps.toList < x.cps.toList
theorem leS_trans {x y z : Str} (h1 : leS x y) (h2 : leS y z) : leS x z := by
  unfold leS at *
  rw [List.not_lt] at *
  exact List.le_trans h1 h2
theorem leS_anti {x y : Str} (h1 : leS x y) (h2 : leS y x) : x = y := by
  unfold leS at *
  rw [List.not_lt] at *
  exact str_ext (List.le_antisymm h1 h2)
theorem rising_pw : ∀ (p : Str) (l : List Str), risingS p l = true → (p :: l).Pairwise leS
  | p, [], _ => List.pairwise_singleton _ _
  | p, x :: r, h => by
    have h' : (!ltCps x.cps.toList p.cps.toList && risingS x r) = true := h
    rw [Bool.and_eq_true] at h'
    have ih := rising_pw x r h'.2
    have px : leS p x := by
      have := h'.1
      rw [ltCps_eq] at this
      unfold leS
      intro hl
      rw [decide_eq_true hl] at this
      cases this
    refine List.pairwise_cons.mpr ⟨fun y hy => ?_, ih⟩
    rcases List.mem_cons.mp hy with rfl | hy
    · exact px
    · exact leS_trans px ((List.pairwise_cons.mp ih).1 y hy)
theorem sorted_pw {l : List Str} (h : sortedS l = true) : l.Pairwise leS := by
  cases l with
  | nil => exact .nil
  | cons x r => exact rising_pw x r h
theorem sorted_one : ∀ (a b : List Str), a.Perm b → a.Pairwise leS → b.Pairwise leS → a = b
  | [], b, p, _, _ => (List.Perm.nil_eq p)
  | x :: r, [], p, _, _ => by cases p.eq_nil
  | x :: r, y :: s, p, ha, hb => by
    have e : x = y := by
      have hx : x ∈ y :: s := p.subset List.mem_cons_self
      have hy : y ∈ x :: r := p.symm.subset List.mem_cons_self
      rcases List.mem_cons.mp hx with h | h
      · exact h
      · rcases List.mem_cons.mp hy with h' | h'
        · exact h'.symm
        · exact leS_anti ((List.pairwise_cons.mp ha).1 y h') ((List.pairwise_cons.mp hb).1 x h)
    subst e
    rw [sorted_one r s (List.Perm.cons_inv p) (List.pairwise_cons.mp ha).2 (List.pairwise_cons.mp hb).2]
theorem sortedS_one {a b : List Str} (p : a.Perm b) (ha : sortedS a = true) (hb : sortedS b = true) : a = b := sorted_one a b p (sorted_pw ha) (sorted_pw hb)
/-! ### the pairs of names -/
def ltN (a b : Str) : Bool := decide (a.cps.toList < b.cps.toList)
theorem ltN_ne {a b : Str} (h : ltN a b = true) : a ≠ b := fun e => by
  subst e
  exact List.lt_irrefl _ (of_decide_eq_true h)
def pairsL (q : Str → Str → Bool) (xs ys : List Str) : List (Str × Str) := xs.flatMap fun a => (ys.filter fun b => ltN a b && q a b).map fun b => (a, b)
theorem pairsL_snoc (q : Str → Str → Bool) (xs ys : List Str) (a : Str) : pairsL q (xs ++ [a]) ys = pairsL q xs ys ++ (ys.filter fun b => ltN a b && q a b).map fun b => (a, b) := by
  unfold pairsL
  rw [List.flatMap_append, List.flatMap_singleton]
theorem mem_pairsL {q : Str → Str → Bool} {xs ys : List Str} {p : Str × Str} (h : p ∈ pairsL q xs ys) : p.1 ∈ xs ∧ p.2 ∈ ys ∧ ltN p.1 p.2 = true ∧ q p.1 p.2 = true := by
  obtain ⟨a, ha, h⟩ := List.mem_flatMap.mp h
  obtain ⟨b, hb, rfl⟩ := List.mem_map.mp h
  obtain ⟨h1, h2⟩ := List.mem_filter.mp hb
  rw [Bool.and_eq_true] at h2
  exact ⟨ha, h1, h2.1, h2.2⟩
theorem pairsL_len (q : Str → Str → Bool) (ys : List Str) : ∀ xs : List Str, (pairsL q xs ys).length ≤ xs.length * ys.length
  | [] => by simp [pairsL]
  | a :: r => by
    have ih := pairsL_len q ys r
    have h1 := List.length_filter_le (fun b => ltN a b && q a b) ys
    show (((ys.filter fun b => ltN a b && q a b).map fun b => (a, b)) ++ pairsL q r ys).length ≤ _
    rw [List.length_append, List.length_map, List.length_cons, Nat.add_mul]
    omega
/-- the ways part at the first sign -/
def parts (t : Tr) (a b : Str) : Bool := decide ((t.way a).getD 0 false ≠ (t.way b).getD 0 false)
end Fk

set_option Elab.async false
set_option linter.all false
set_option maxRecDepth 100000
set_option maxHeartbeats 4000000
namespace Fk
open PySem PySem.Spec PyProof.Rows L2
/-- a new pair at the end of the list -/
theorem PairsAt.push {H : Hp} {q p : Addr} {zs : List (Addr × Str × Str)} {x y : Str} (h : PairsAt H q zs) (n : H p = none) :
    (upd H p (.tup [.str x, .str y])) q = some (.lst (zs.map fun z => V.ref z.1)) ∧ PairsAt (upd (upd H p (.tup [.str x, .str y])) q (.lst ((zs.map fun z => V.ref z.1) ++ [.ref p]))) q (zs ++ [(p, x, y)]) := by
  have pq : p ≠ q := Ne.symm (ne_of_none h.1 n)
  refine ⟨by rw [upd_ne (Ne.symm pq)]; exact h.1, by rw [upd_same, List.map_append]; rfl, fun z hz => ?_⟩
  rcases List.mem_append.mp hz with hz | hz
  · have := h.2 z hz
    unfold PairAt at this ⊢
    rw [upd_ne (ne_of this h.1 (by intro z; cases z)), upd_ne (ne_of_none this n)]; exact this
  · have : z = (p, x, y) := by simpa using hz
    subst this
    unfold PairAt
    rw [upd_ne pq, upd_same]
theorem str_at {xs : List Str} {i : Nat} {y : V} (h : (xs.map V.str)[i]? = some y) : ∃ x, xs[i]? = some x ∧ y = .str x := by
  rw [List.getElem?_map] at h
  cases e : xs[i]? with
  | none => rw [e] at h; cases h
  | some x => rw [e] at h; exact ⟨x, rfl, (Option.some.inj h).symm⟩
theorem first_at {w : List Bool} (h : w ≠ []) : atI (enc w).cps.toList 0 = some (bitC (w.getD 0 false)) := enc_at (k := 0) (List.length_pos_iff.mpr h)
section
variable {P : Program} {w : World} {K : PySem.W.Frag} {mg : Str → Option Value} {base : Heap} {f : Addr} {fd : FuncData} {C : Addr}
def spSafe (C : Addr) : Sp := fun vs H Q _ => ∃ (a : Addr) (t : Tr) (ns : List Str), vs = [.ref a] ∧ PlanAt H C a t ns ∧ TrOk t ns ∧
  ∀ q zs H', Same H H' → H q = none → PairsAt H' q zs → zs.map (·.2) = pairsL (parts t) ns ns → Q (.ref q) H'
theorem sc_safe_pairs : FnScope ["plan", "pairs", "first", "second"] ["plan"] (defScope (top 13)) := ⟨rfl, rfl, rfl, by decide +kernel, rfl, by decide +kernel, by decide +kernel⟩
theorem ok_safe (PC : PCls K C) (F : Std K "safe_pairs" "safe_pairs" (top 13) f fd) (hm : mg "safe_pairs" = some (.ref f)) : Cal P w K mg base 1 "safe_pairs" (spSafe C) := by
  have cl := PC.cl
  refine cal_of F hm (fun _ _ _ _ _ _ us hl => match us, hl with | [_], _ => rfl) sc_safe_pairs (fun vs H Q E h => ?_) (fun cdv A outer s H vs Q E hr h => ?_)
  · obtain ⟨_, _, _, rfl, _⟩ := h; rfl
  · obtain ⟨a, t, ns, rfl, pa, ok, k⟩ := h
    have hu := hu_of hr
    refine ⟨_, (pss_cons (ps_set (i := 1) sc_safe_pairs.nd rfl (.inl rfl) (pe_lst pa_nil))
        (pss_cons (ps_for PassesOwn.never rfl (pi_list (pe_fld (pv 0) rfl)) (pg_name (i := 2) sc_safe_pairs.nd rfl (.inl rfl)) (pss_one (ps_for PassesOwn.never rfl (pi_list (pe_fld (pv 0) rfl)) (pg_name (i := 3) sc_safe_pairs.nd rfl (.inl rfl)) (pss_one (ps_if (PW.pt (pw_and (pt_cmpR op_lt_str (pv 2) (pv 3) (nomark _)) (pw_and1 (pt_cmpR op_ne (pe_ix ix_str (pe_dget hu (pe_fld (pv 0) rfl) (pv 2) (fun _ _ => rfl)) pe_int (fun _ _ => rfl)) (pe_ix ix_str (pe_dget hu (pe_fld (pv 0) rfl) (pv 3) (fun _ _ => rfl)) pe_int (fun _ _ => rfl)) (nomark _))))) (pss_one (ps_expr (pe_bm PySem.F.plainAttrs_list PySem.F.slot_list_append PySem.F.type_list_append mt_append (pv 1) (pa_cons (pe_tup (pa_cons (pv 2) (pa_cons (pv 3) pa_nil))) pa_nil)))) pss_nil)))))
        (pss_one (ps_ret (pv 1))))), ?_⟩
    obtain ⟨dx, n, c, sz, v, wd, fl, lf, z, p⟩ := pa
    refine ⟨Nat.zero_le _, fun q nq => ?_⟩
    have sm0 : Same H (upd H q (.lst [])) := sNew (Same.refl H) nq
    have nlen := ok.nlen
    refine ⟨_, rfl, a, C, dx, _, .ref n, rfl, sm0 _ _ p.ins, cl, PC.names, rfl, n, rfl, ⟨_, SqL.of (sm0 _ _ p.names)⟩, ?_⟩
    refine for_list (K := K) (a := n) (xs := ns.map V.str) (fun i σ H' => ∃ (zs : List (Addr × Str × Str)) (v2 v3 : Option V), σ = [some (.ref a), some (.ref q), v2, v3] ∧ Same H H' ∧ PairsAt H' q zs ∧ zs.map (·.2) = pairsL (parts t) (ns.take i) ns)
      ⟨[], none, none, rfl, sm0, ⟨upd_same, fun z hz => nomatch hz⟩, rfl⟩ (fun i σ H' _ ⟨_, _, _, _, sm, _⟩ => SqL.of (sm _ _ p.names)) ?_ ?_
    · rintro i y σ H1 hi ⟨zs, v2, v3, rfl, sm, hz, hm⟩
      obtain ⟨x, hx, rfl⟩ := str_at hi
      have hxn : x ∈ ns := List.mem_of_getElem? hx
      refine ⟨_, rfl, a, C, dx, _, .ref n, rfl, sm _ _ p.ins, cl, PC.names, rfl, n, rfl, ⟨_, SqL.of (sm _ _ p.names)⟩, ?_⟩
      refine for_list (K := K) (a := n) (xs := ns.map V.str) (fun j σ H' => ∃ (zs : List (Addr × Str × Str)) (v3 : Option V), σ = [some (.ref a), some (.ref q), some (.str x), v3] ∧ Same H H' ∧ PairsAt H' q zs ∧ zs.map (·.2) = pairsL (parts t) (ns.take i) ns ++ ((ns.take j).filter fun b => ltN x b && parts t x b).map fun b => (x, b))
        ⟨zs, v3, rfl, sm, hz, by rw [hm, List.take_zero]; simp⟩ (fun i σ H' _ ⟨_, _, _, sm, _⟩ => SqL.of (sm _ _ p.names)) ?_ ?_
      · rintro j y σ H2 hj ⟨zs, v3, rfl, sm, hz, hm⟩
        obtain ⟨b, hb, rfl⟩ := str_at hj
        have hbn : b ∈ ns := List.mem_of_getElem? hb
        refine ⟨_, rfl, _, rfl, _, _, rfl, rfl, _, rfl, ?_⟩
        show if ltN x b = true then _ else _
        have et := take_snoc hb
        have skip : ¬ (ltN x b && parts t x b) = true → zs.map (·.2) = pairsL (parts t) (ns.take i) ns ++ ((ns.take (j + 1)).filter fun b => ltN x b && parts t x b).map fun b => (x, b) := fun h => by
          rw [et, List.filter_append, List.filter_cons_of_neg (p := fun b => ltN x b && parts t x b) (a := b) h, List.filter_nil, List.append_nil]; exact hm
        refine ite2 (fun c => ?_) (fun c => ?_)
        · have ne := ltN_ne c
          have wx := way_ne t ns ok.nd ok.pm hxn hbn ne
          have wb := way_ne t ns ok.nd ok.pm hbn hxn (Ne.symm ne)
          have dx' : DGet H2 wd (.str x) (some (.str (enc (t.way x)))) := by
            have := DGet.k (k := kS x) (sm _ _ p.ways)
            rwa [way_val ok.nd (ok.mem.mp hxn)] at this
          have db' : DGet H2 wd (.str b) (some (.str (enc (t.way b)))) := by
            have := DGet.k (k := kS b) (sm _ _ p.ways)
            rwa [way_val ok.nd (ok.mem.mp hbn)] at this
          have zx : (enc (t.way x)).length ≤ sizeLine := small_line (by rw [enc_len]; have := ok.wlen (ok.mem.mp hxn); omega)
          have zb : (enc (t.way b)).length ≤ sizeLine := small_line (by rw [enc_len]; have := ok.wlen (ok.mem.mp hbn); omega)
          refine ⟨_, rfl, a, C, dx, _, .ref wd, rfl, sm _ _ p.ins, cl, PC.ways, rfl, _, rfl, wd, _, rfl, dx', _, _, _, rfl, rfl, zx, first_at wx, ?_⟩
          refine ⟨_, rfl, a, C, dx, _, .ref wd, rfl, sm _ _ p.ins, cl, PC.ways, rfl, _, rfl, wd, _, rfl, db', _, _, _, rfl, rfl, zb, first_at wb, rfl, _, rfl, ?_⟩
          rw [sign_enc, sign_enc]
          have hq : (!decide (V.str (enc [(t.way x).getD 0 false]) = V.str (enc [(t.way b).getD 0 false]))) = parts t x b := by
            unfold parts
            by_cases e : (t.way x).getD 0 false = (t.way b).getD 0 false
            · rw [e, decide_eq_true rfl, decide_eq_false (by simp)]; rfl
            · rw [decide_eq_true e, decide_eq_false (fun z => e (List.cons.inj (enc_inj (V.str.inj z))).1)]; rfl
          rw [hq]
          refine ite2 (fun c2 => ?_) (fun c2 => ?_)
          · have hp : (ltN x b && parts t x b) = true := by rw [c, c2]; rfl
            refine ⟨_, rfl, .inl ⟨rfl, _, SqL.of hz.1⟩, _, rfl, _, rfl, (by show 2 ≤ sizeLine; decide), fun u nu => ?_⟩
            obtain ⟨h1, h2⟩ := hz.push (x := x) (y := b) nu
            refine ⟨q, _, _, rfl, rfl, h1, small_line' ?_, _, _, rfl, sOwn (sNew sm nu) nq, h2, ?_⟩
            · have e1 := congrArg List.length hm
              rw [List.length_map, List.length_append, List.length_map] at e1
              have e2 := pairsL_len (parts t) ns (ns.take i)
              have e3 := List.length_filter_le (fun b => ltN x b && parts t x b) (ns.take j)
              rw [List.length_take] at e2 e3
              have e4 : min i ns.length * ns.length ≤ 12 * 12 := Nat.mul_le_mul (by omega) nlen
              rw [List.length_map]; omega
            · rw [et, List.filter_append, List.filter_cons_of_pos (p := fun b => ltN x b && parts t x b) (a := b) hp, List.filter_nil, List.map_append, List.map_append, ← List.append_assoc, ← hm]; rfl
          · refine ⟨zs, _, rfl, sm, hz, skip (by rw [Bool.and_eq_true]; exact fun h => c2 h.2)⟩
        · exact iteF ⟨zs, _, rfl, sm, hz, skip (by rw [Bool.and_eq_true]; exact fun h => c h.1)⟩
      · rintro σ H2 ⟨zs, v3, rfl, sm, hz, hm⟩
        refine ⟨zs, _, _, rfl, sm, hz, ?_⟩
        rw [hm, List.length_map, List.take_length, take_snoc hx, pairsL_snoc]
    · rintro σ H1 ⟨zs, v2, v3, rfl, sm, hz, hm⟩
      refine ⟨_, rfl, k q zs H1 sm nq hz ?_⟩
      rw [hm, List.length_map, List.take_length]
end
end Fk

set_option Elab.async false
set_option linter.all false
set_option maxRecDepth 100000
set_option maxHeartbeats 4000000
namespace Fk
open PySem PySem.Spec PyProof.Rows L2
/-! ### super().__init__(..) of an instance whose dict is there -/
structure SupX (X : Cx) (C f2 : Addr) : Prop where
  ks : X.env.scope.names.lookup ("super" : Str) = some .globalImplicit
  kc : X.env.scope.names.lookup ("__class__" : Str) = some .free
  kself : X.env.scope.names.lookup ("self" : Str) = some .local
  n0 : X.N[0]? = some ("self" : Str)
  fu : ∃ f ob fd ar, X.env.func = some f ∧ X.K.lookup f = some ob ∧ ob.data = .func fd ∧ (fd.params.posonlyargs ++ fd.params.args).head? = some ar ∧ ar.arg = "self"
  co : ∃ cda oc vs fl tf, X.env.code = .ref cda ∧ X.K.lookup cda = some oc ∧ oc.data = .fields vs ∧ vs[2]? = some (.str fl tf) ∧ (X.prog.main.file == fl) = true
  tp : (X.prog.main.scope.names.lookup ("super" : Str)).isSome = false
  cell : ∃ cc ob, X.env.cells.lookup ("__class__" : Str) = some cc ∧ X.K.lookup cc = some ob ∧ ob.data = .cell (some (.ref C))
  cls : ∃ cd, PySem.W.clsIn X.K C = some cd
  sub : PySem.W.mroIn X.K C (.ref C) = some true
  find : PySem.W.ks_superIn X.K C C ("__init__" : Str) = some (some (.ref f2))
  ty : PySem.W.typeIn X.K (.ref f2) = some (.type "function")
  fn : PySem.W.fnIn X.K f2 = true
  op : PySem.W.nsIn X.K cStatics "thirdparty.any" = some none
  mg : X.mg "super" = none
section
variable {X : Cx} {C f2 : Addr} {k : Nat} {fd2 : FuncData} {ps : List Str} {sp : Sp} {CX : CXT} {E : XK} {e : Expr} {es : List Expr} {t : TA} {p0 p1 p2 p3 p4 : Pos} {body : List Stmt}
theorem sup_init (S : SupX X C f2) (F : FnOk X.prog X.w X.K X.mg X.base CX k f2 fd2 ps sp) (hr : Room k X.A) (hb : Binds X.K fd2 ps []) (hx : Passes CX X E) (ha : PA X (e :: es) t) {pins : List (Addr × Obj)} {σ : L2.St} {H : Hp} {s : Shared} {a dx : Addr} {fs : List (Str × V)} {R : Hp → Prop}
    (I : Inv X pins σ H s) (h0 : σ[0]? = some (some (.ref a))) (hins : H a = some (.ins C dx fs)) (h : ∀ q, H q = none → t σ (upd H q (.met f2 a)) fun vs H2 => H2 q = some (.met f2 a) ∧ sp (.ref a :: vs) H2 (fun _ H3 => R H3) E)
    (hi : interactive X.env = false) (hsw : swapsWith (.Call (.Attribute (.Call (.Name "super" p0) [] [] p1) "__init__" p2) (e :: es) [] p3) none p4.line X.env = pure false) (he : starEach (e :: es) X.env = (false, eval e X.env) :: starEach es X.env) (hpl : (backTo p3 (starEach es X.env)).any (·.1) = false) {pl : Sem Bool}
    (het : eval (.Call (.Attribute (.Call (.Name "super" p0) [] [] p1) "__init__" p2) (e :: es) [] p3) X.env = (do
      let it ← attributeBase (.Call (.Name "super" p0) [] [] p1) "__init__" X.env (eval (.Call (.Name "super" p0) [] [] p1) X.env)
      standAt p2.atName
      let (fn, fst) ← holding [it] (getMethod it "__init__" pl)
      callWith p3 fn fst (backTo p3 (starEach (e :: es) X.env)) [])) :
    _root_.PySem.wpAt (model X.prog X.w) X.A (.func body X.env) (exec (.Expr (.Call (.Attribute (.Call (.Name "super" p0) [] [] p1) "__init__" p2) (e :: es) [] p3) p4) X.env) (SP X pins { nx := fun σ' H' => σ' = σ ∧ R H', rt := fun _ _ => False }) X.xe s := by
  refine ks_wpAt_Expr_any ?_ hi hsw
  refine ks_wpAt_MethodCall (pl := pl) ?_ het
  obtain ⟨f, ob, fd, ar, e1, e2, e3, e4, e5⟩ := S.fu
  obtain ⟨cda, oc, vs, fl, tf, c1, c2, c3, c4, c5⟩ := S.co
  obtain ⟨cc, oce, d1, d2, d3⟩ := S.cell
  obtain ⟨cd, hcd⟩ := S.cls
  have KI := I.kIn
  obtain ⟨oD, hD1, hD2⟩ : ∃ oD, s.heap.get? C = some oD ∧ oD.data = .cls cd := by
    unfold PySem.W.clsIn at hcd
    split at hcd
    · rename_i c d cd' sl ho
      cases hcd
      exact ⟨_, KI _ _ ho, rfl⟩
    · cases hcd
  obtain ⟨mA, O, _, _, _, _⟩ := ins_get I.hok hins
  have hax : s.heap.get? a = some (PySem.W.instObj C dx) := O.obj
  refine ks_wpAt_super_base (env := X.env) S.ks S.kc (by decide) e1 (KI _ _ e2) e3 e4 c1 (KI _ _ c2) c3 c4 c5 S.tp ?_
  refine PySem.W.ks_loadName_global I.ok.kind S.ks ?_
  obtain ⟨mb, b1, b2⟩ := I.mod.blt
  refine Calls.loadGlobal_builtin (by rw [I.ok.glob]; exact I.mod.glob.keeps I.bk) S.mg (by rw [I.ok.blt]; exact b1.keeps I.bk) ((b2 _ (by decide)).trans (by decide +kernel)) ⟨rfl, ?_⟩
  refine wpAny_loadName_free I.ok.kind S.kc d1 ⟨_, KI _ _ d2, d3⟩ ?_
  rw [e5]
  obtain ⟨m, hn, hl⟩ := I.loc
  obtain ⟨u, ru, lk⟩ := hl 0 "self" (.ref a) S.n0 h0 (.inl S.kself)
  obtain rfl : u = Value.ref a := ru
  have hm : m "self" = some (.ref a) := by
    rcases lk with ⟨_, hm⟩ | ⟨hk, _⟩
    · exact hm
    · have hk : X.env.scope.names.lookup ("self" : Str) = some .cell ∨ X.env.scope.names.lookup ("self" : Str) = some .free := hk
      rw [S.kself] at hk
      rcases hk with hk | hk <;> cases hk
  refine wpAny_loadName_local I.ok.kind S.kself hn hm ?_
  obtain ⟨hp, g, d, tk, os⟩ := s
  refine ks_wpAny_isType_cls hD1 hD2 ⟨rfl, ?_⟩
  refine ks_wpAny_call_super hD1 hD2 hax rfl (fun c z => nomatch z) (PySem.W.looks_mroIn KI S.sub) fun h' hso hk => ?_
  have I1 : Inv X pins σ H ⟨h', g, d, tk, os⟩ := I.kept (t' := tk) hk
  have KI1 := I1.kIn
  -- the method
  have hcls : ∃ l, PySem.W.Looks (model X.prog X.w) h' (mroOf (.ref C)) l ∧ PySem.W.alongIn X.K "__init__" ((l.dropWhile (· != .ref C)).drop 1) = some (some (.ref f2)) := by
    refine ⟨cd.mro, ?_, ?_⟩
    · exact fun A Q E s k q => wpAny_bind ((PySem.W.looks_clsIn KI1 hcd) A _ E s k (wpAny_pure q))
    · have := S.find
      unfold PySem.W.ks_superIn at this
      rw [hcd] at this
      exact this
  obtain ⟨l, L1, L2'⟩ := hcls
  obtain ⟨of, hof, hofc⟩ : ∃ of, h'.get? f2 = some of ∧ of.cls = .type "function" := by
    have ht' : (X.K.lookup f2).map (·.cls) = some (.type "function") := S.ty
    cases z : X.K.lookup f2 with
    | none => (rw [z] at ht'; cases ht')
    | some of => rw [z] at ht'; exact ⟨of, KI1 _ _ z, Option.some.inj ht'⟩
  have hxC : a ≠ C := fun z => by
    rw [z] at hax
    have hax : hp.get? C = some (PySem.W.instObj C dx) := hax
    have hD1 : hp.get? C = some oD := hD1
    rw [hax] at hD1
    rw [← Option.some.inj hD1] at hD2
    cases hD2
  refine ks_wpAny_getMethod_super hso (PySem.W.looks_opaque KI1 S.op) L1 rfl KI1 L2' hof hofc hxC (by decide) ?_
  have eq : (h'.push (PySem.W.methodObj (.ref f2) (.ref a))).get? h'.objs.size = some (PySem.W.methodObj (.ref f2) (.ref a)) := Heap.get?_push_size _ rfl
  have nq : H h'.objs.size = none := I1.hok.fresh (Nat.le_refl _)
  have I2 : Inv X pins σ (upd H h'.objs.size (.met f2 a)) ⟨h'.push (PySem.W.methodObj (.ref f2) (.ref a)), g, d, tk + 1, os⟩ := I1.laid (t' := tk + 1) (a := h'.objs.size) (o := .met f2 a) (fun b o z => Heap.get?_push_of_some _ z) (Nat.le_refl _) eq
  have h2 := h _ nq
  refine PySem.W.callWith_of (P := PySem.W.MethP X.K h'.objs.size f2 (.ref a)) (by rw [he]; show ((false || (backTo p3 (starEach es X.env)).any (·.1)) || false) = false; rw [hpl]; rfl) (PySem.W.keeps_M S.fn) ?_
  have hrun := ha.run p3 pins _ σ _ _ I2 h2
  rw [he] at hrun ⊢
  refine Calls.evalArgs_plain (thn hrun fun us s2 ⟨vs, H2, I3, r, hq, hsp⟩ => ?_)
  have hmeth : s2.heap.get? h'.objs.size = some (PySem.W.methodObj (.ref f2) (.ref a)) := I3.hok _ _ hq
  refine ⟨⟨hmeth, I3.kIn⟩, ?_⟩
  have r2 : Vals (V.ref a :: vs) (Value.ref a :: us) := .cons rfl r
  have hlen : (Value.ref a :: us).length = ps.length := by rw [← r2.length]; exact F.len _ _ _ _ hsp
  have hbi := hb s2 (Value.ref a :: us) I3.kIn (by rw [List.append_nil]; exact hlen)
  rw [List.append_nil] at hbi
  refine wpAny_call (ks_codeAny_call_bound hmeth (codeAny_mono (F.run X.A X.stack s2 H2 ⟨Value.ref a :: us, []⟩ (Value.ref a :: us) (V.ref a :: vs) _ E hr I3.env0 hbi r2 hsp) fun r s' hq' => ?_))
  cases r with
  | error e => exact hx pins σ H2 s2 e s' I3 hq'
  | ok fl =>
    cases fl with
    | ret u =>
      obtain ⟨v, H3, I4, _, q4⟩ := I3.after hq'
      exact ⟨σ, H3, I4, rfl, q4⟩
    | next => exact False.elim hq'
    | brk => exact False.elim hq'
    | cont => exact False.elim hq'
end
end Fk

set_option Elab.async false
set_option linter.all false
set_option maxRecDepth 100000
set_option maxHeartbeats 4000000
namespace Fk
open PySem PySem.Spec PyProof.Rows L2
/-! ### ForkPlan.__init__: its frame has a cell of its own and the class's cell -/
abbrev sIni : Stmt := met 33 0
abbrev scI : Scope := defScope sIni
abbrev quI : Str := "ForkPlan.__init__"
def envI (L f : Addr) (cd : Value) (cc : Addr) : Env := newEnv scI L mainGlobals (cellsFrom (L + 1) scI.names [("__class__", cc)]) (quI ++ ".<locals>.") (some f) cd none builtinsNs
abbrev NI : List Str := ["self", "tree", "ways", "names", "cells", "writer", "level", "way"]
def cxI (P : Program) (w : World) (K : PySem.W.Frag) (mg : Str → Option Value) (base : Heap) (f : Addr) (cd : Value) (cc : Addr) (A : Around) (outer : List Env) (s : Shared) (H : Hp) (E : XK) : Cx where
  prog := P
  w := w
  K := K
  mg := mg
  base := base
  A := A.deeper (envI s.heap.objs.size f cd cc)
  N := NI
  s_0 := s
  H_0 := H
  env := envI s.heap.objs.size f cd cc
  outer := outer
  stack := envI s.heap.objs.size f cd cc :: outer
  ex := []
  calm := true
  fn := fun x => decide (x = "ways")
  pn := []
  xe := fun e s' => wpAny (model P w) (A.deeper (envI s.heap.objs.size f cd cc)) (leaving (envI s.heap.objs.size f cd cc) e) (fun _ s'' => CX0 outer H s E e s'') (fun e' s'' => CX0 outer H s E e' s'') s'
theorem cellsI (L cc : Addr) : cellsFrom L scI.names [("__class__", cc)] = [(("ways" : Str), L), (("__class__" : Str), cc)] := rfl
theorem pushI (h : Heap) : pushCells h scI.names = h.push { cls := .type "cell", data := .cell none } := rfl
section
variable {M : Model} {A : Around} {E : Value → Shared → Prop} {s : Shared}
/-- a frame with two parameters, both plain locals -/
theorem newEnv2 {scope : Scope} {globals builtins : Addr} {closure : List (Str × Addr)} {n1 n2 : Str} {v1 v2 : Value} {qual : Str} {func : Option Addr} {code : Value} {Q : Env → Shared → Prop} (hk : scope.kind = .function) (h1 : scope.names.lookup n1 = some .local) (h2 : scope.names.lookup n2 = some .local)
    (hQ : ∀ h' tk, h'.Ns s.heap.objs.size (fun y => if y = n2 then some v2 else if y = n1 then some v1 else none) → (∀ b o, b ≠ s.heap.objs.size → (pushCells (s.heap.push { cls := .type "frame", data := .dict #[] }) scope.names).get? b = some o → h'.get? b = some o) →
      Q (newEnv scope s.heap.objs.size globals (cellsFrom (s.heap.objs.size + 1) scope.names closure) qual func code none builtins) { s with heap := h', toks := tk }) :
    wpAny M A (newFunctionEnv scope globals closure [(n1, v1), (n2, v2)] qual func code none builtins) Q E s := by
  simp only [newFunctionEnv, Option.isSome_none, Bool.false_eq_true, if_false]
  refine wpAny_bind (wpAny_alloc ?_)
  refine wpAny_bind (wpAny_layCells _ (fun _ kd _ => by cases hcell : kd == NameKind.cell <;> simp [hcell]) _ _ _ _ ?_)
  have hsz : ({ s with heap := s.heap.push { cls := .type "frame", data := .dict #[] } } : Shared).heap.objs.size = s.heap.objs.size + 1 := Heap.size_push ..
  rw [hsz]
  have ns0 : (pushCells (s.heap.push { cls := .type "frame", data := .dict #[] }) scope.names).Ns s.heap.objs.size (fun _ => none) := (Heap.Ns.new s.heap (.type "frame")).keeps (pushCells_keeps _ _)
  have hp : ∀ env : Env, env.scope = scope → (env.scope.kind == .class || (env.scope.kind == .module && env.locals != env.globals)) = false := fun env he => by rw [he, hk]; rfl
  rw [List.forIn_cons]
  refine wpAny_bind (wpAny_bind (wpAny_bind (wpAny_storeName_local (env := newEnv scope s.heap.objs.size globals (cellsFrom (s.heap.objs.size + 1) scope.names closure) qual func code none builtins) h1 ns0 (fun a1 b1 c1 => wpAny_pure ?_) (hp _ rfl))))
  dsimp only
  rw [List.forIn_cons]
  refine wpAny_bind (wpAny_bind (wpAny_storeName_local (env := newEnv scope s.heap.objs.size globals (cellsFrom (s.heap.objs.size + 1) scope.names closure) qual func code none builtins) h2 b1 (fun a2 b2 c2 => wpAny_pure ?_) (hp _ rfl)))
  dsimp only
  rw [List.forIn_nil]
  refine wpAny_pure (wpAny_pure (hQ a2 _ b2 fun b o hb e => (c2.2 b hb).trans ((c1.2 b hb).trans e)))
end
section
variable {P : Program} {w : World} {K : PySem.W.Frag} {mg : Str → Option Value} {base : Heap} {f cc C : Addr} {cd : Value} {A : Around} {outer : List Env} {s : Shared} {H : Hp} {E : XK}
theorem lookI {L : Addr} {x : Str} {c : Addr} (h : (envI L f cd cc).cells.lookup x = some c) : (x = "ways" ∧ c = L + 1) ∨ (x = "__class__" ∧ c = cc) := by
  have e : (envI L f cd cc).cells = [(("ways" : Str), L + 1), (("__class__" : Str), cc)] := rfl
  rw [e, List.lookup_cons] at h
  cases h1 : x == ("ways" : Str) with
  | true => rw [h1] at h; exact .inl ⟨eq_of_beq h1, (Option.some.inj h).symm⟩
  | false =>
    rw [h1] at h
    have h : List.lookup x [(("__class__" : Str), cc)] = some c := h
    rw [List.lookup_cons] at h
    cases h2 : x == ("__class__" : Str) with
    | true => rw [h2] at h; exact .inr ⟨eq_of_beq h2, (Option.some.inj h).symm⟩
    | false => rw [h2] at h; cases h
theorem inv_startI {h' : Heap} {tk : Nat} {x y : V} {u v : Value} {ob : Obj} (hd : A.handled = none) (e0 : Env0 P w K mg base A outer s H) (rx : RelV x u) (ry : RelV y v) (hcc : K.lookup cc = some ob) (hob : ob.data = .cell (some (.ref C)))
    (hns : h'.Ns s.heap.objs.size (fun z => if z = ("tree" : Str) then some v else if z = ("self" : Str) then some u else none)) (kp : ∀ b o, b ≠ s.heap.objs.size → (pushCells (s.heap.push { cls := .type "frame", data := .dict #[] }) scI.names).get? b = some o → h'.get? b = some o) :
    Inv (cxI P w K mg base f cd cc A outer s H E) [] (L2.start NI [x, y]) H { s with heap := h', toks := tk } := by
  have noA : ∀ b : Addr, b ∉ (cxI P w K mg base f cd cc A outer s H E).ex := fun b z => absurd (show b ∈ ([] : List Addr) from z) (by simp)
  have bcc : base.get? cc = some ob := e0.mod.kin _ _ hcc
  have ccl : cc < s.heap.objs.size := Nat.lt_of_lt_of_le (Heap.lt_size bcc) e0.bsz
  have kp' : ∀ b o, s.heap.get? b = some o → h'.get? b = some o := fun b o e => kp b o (Nat.ne_of_lt (Heap.lt_size e)) (pushCells_keeps _ _ b o (Heap.get?_push_of_some _ e))
  have hw : h'.get? (s.heap.objs.size + 1) = some { cls := .type "cell", data := .cell none } := by
    refine kp _ _ (by omega) ?_
    rw [pushI]
    have e : (s.heap.push { cls := .type "frame", data := .dict #[] }).objs.size = s.heap.objs.size + 1 := Heap.size_push ..
    rw [← e]
    exact Heap.get?_push_size _ rfl
  refine ⟨⟨e0.mod, rfl, rfl, rfl, Nat.le_refl _, fun y z c h1 h2 => ?_, fun y hy => ?_, fun y c hf h => ?_, fun _ => hd, Around.frames_deeper e0.frames, .inr ⟨rfl, rfl⟩, fun b z => absurd z (noA b), e0.bs, e0.bsz, fun b _ _ => noA b, fun b z => absurd z (noA b), e0.funs, e0.frf⟩,
    rfl, e0.bare, Un.kept kp', ⟨_, hns, fun i z q h1 h2 h3 => ?_⟩, fun y c h => ?_, e0.hok.fresh (Nat.le_refl _), fun y c h => ?_, fun p hp => absurd (show p ∈ ([] : List (Addr × Obj)) from hp) (by simp), e0.hok.kept kp', rfl⟩
  · rcases lookI h1 with ⟨e1, e2⟩ | ⟨e1, e2⟩ <;> rcases lookI h2 with ⟨e3, e4⟩ | ⟨e3, e4⟩
    · rw [e1, e3]
    · exact absurd (e2.symm.trans e4) (Nat.ne_of_gt (Nat.lt_succ_of_lt ccl))
    · exact absurd (e4.symm.trans e2) (Nat.ne_of_gt (Nat.lt_succ_of_lt ccl))
    · rw [e1, e3]
  · have hy : scI.names.lookup y = some .cell ∨ scI.names.lookup y = some .free := hy
    have all : scI.names.all (fun p => decide (p.2 = .cell ∨ p.2 = .free → p.1 = "ways" ∨ p.1 = "__class__")) = true := by decide +kernel
    have key : y = "ways" ∨ y = "__class__" := by
      rcases hy with hy | hy
      · exact of_decide_eq_true (List.all_eq_true.mp all _ (PySem.mem_of_lookup hy)) (.inl rfl)
      · exact of_decide_eq_true (List.all_eq_true.mp all _ (PySem.mem_of_lookup hy)) (.inr rfl)
    rcases key with rfl | rfl
    · exact ⟨_, rfl⟩
    · exact ⟨_, rfl⟩
  · have hf : decide (y = "ways") = true := hf
    rcases lookI h with ⟨e1, e2⟩ | ⟨e1, e2⟩
    · rw [e2]
      exact Nat.le_succ _
    · rw [e1] at hf
      exact absurd hf (by decide +kernel)
  · have h2 : (L2.start NI [x, y])[i]? = some (some q) := h2
    have h1 : NI[i]? = some z := h1
    match i, h1, h2 with
    | 0, h1, h2 =>
      cases Option.some.inj h1
      cases Option.some.inj (Option.some.inj h2)
      exact ⟨u, rx, .inl ⟨rfl, rfl⟩⟩
    | 1, h1, h2 =>
      cases Option.some.inj h1
      cases Option.some.inj (Option.some.inj h2)
      exact ⟨v, ry, .inl ⟨rfl, rfl⟩⟩
    | 2, h1, h2 => cases h2
    | 3, h1, h2 => cases h2
    | 4, h1, h2 => cases h2
    | 5, h1, h2 => cases h2
    | 6, h1, h2 => cases h2
    | 7, h1, h2 => cases h2
    | i + 8, h1, h2 => cases h1
  · rcases lookI h with ⟨_, e2⟩ | ⟨_, e2⟩
    · exact ⟨none, _, e2 ▸ hw, rfl⟩
    · exact ⟨_, ob, e2 ▸ kp' _ _ (e0.bs _ _ bcc).1, hob⟩
  · rcases lookI h with ⟨_, e2⟩ | ⟨_, e2⟩
    · rw [e2]; exact e0.hok.fresh (Nat.le_succ _)
    · rw [e2]; exact (e0.bs _ _ bcc).2
end
/-! ### statements, the running code known -/
section
variable {X : Cx} {st : Stmt} {rest body : List Stmt} {t : TS} {pins : List (Addr × Obj)} {σ : L2.St} {H : Hp} {s : Shared} {D : Ends}
theorem at_cons (h1 : PS X st t) (I : Inv X pins σ H s) {U : L2.St → Hp → Prop} (ht : t { D with nx := U } σ H)
    (hr : ∀ σ' H' s', Inv X pins σ' H' s' → U σ' H' → _root_.PySem.wpAt (model X.prog X.w) X.A (.func body X.env) (execs rest X.env) (SP X pins D) X.xe s') :
    _root_.PySem.wpAt (model X.prog X.w) X.A (.func body X.env) (execs (st :: rest) X.env) (SP X pins D) X.xe s := by
  refine ks_wpAt_execs_cons (PySem.wpAt_of_wpAny (thn (h1.run pins s σ H { D with nx := U } I ht) fun f s1 q => ?_))
  cases f with
  | next =>
    obtain ⟨σ', H', I', q⟩ := q
    exact hr σ' H' s1 I' q
  | ret v => exact q
  | brk => exact q
  | cont => exact q
end
/-- the text of the def: three statements, the call of super, the rest -/
def bdI : List Stmt := defBody sIni
def stI (i : Nat) : Stmt := bdI.getD i (.Pass ⟨0, 0, 0, 0⟩)
theorem bdI_eq : bdI = stI 0 :: stI 1 :: stI 2 :: stI 3 :: bdI.drop 4 := rfl
structure IniD (K : PySem.W.Frag) (C f f2 cc : Addr) (fd : FuncData) : Prop where
  lk : ∃ oc od osl, K.lookup f = some ⟨oc, od, .func fd, osl⟩
  sc : fd.scope = scI
  bd : fd.body = .stmts bdI
  gl : fd.globals = mainGlobals
  cl : fd.closure = [(("__class__" : Str), cc)]
  qn : fd.qualname = quI
  bl : fd.builtins = builtinsNs
  pa : fd.params = defArgs sIni
  df : fd.defaults = .none
  code : PySem.W.codeIn K fd.code quI = true
  cell : ∃ ob, K.lookup cc = some ob ∧ ob.data = .cell (some (.ref C))
theorem IniD.binds {K : PySem.W.Frag} {C f f2 cc : Addr} {fd : FuncData} (D : IniD K C f f2 cc fd) : Binds K fd ["self", "tree"] [] := Binds.all fun us hl => by
  have e1 := D.pa
  have e2 := D.df
  obtain ⟨nm, qn, pa, bd, sc, gl, cl, df, kd, doc, pm, an, cd, ct, bl⟩ := fd
  dsimp only at e1 e2
  subst e1
  subst e2
  match us, hl with
  | [_, _], _ => rfl
theorem arI : ∃ ar, ((defArgs sIni).posonlyargs ++ (defArgs sIni).args).head? = some ar ∧ ar.arg = "self" := ⟨_, rfl, rfl⟩
/-- what the head tells beside it -/
structure IniS (P : Program) (K : PySem.W.Frag) (mg : Str → Option Value) (C f f2 cc : Addr) (fd : FuncData) : Prop extends IniD K C f f2 cc fd where
  co : ∃ cda oc vs fl tf, fd.code = .ref cda ∧ K.lookup cda = some oc ∧ oc.data = .fields vs ∧ vs[2]? = some (.str fl tf) ∧ (P.main.file == fl) = true
  tp : (P.main.scope.names.lookup ("super" : Str)).isSome = false
  cls : ∃ cd, PySem.W.clsIn K C = some cd
  sub : PySem.W.mroIn K C (.ref C) = some true
  find : PySem.W.ks_superIn K C C ("__init__" : Str) = some (some (.ref f2))
  ty : PySem.W.typeIn K (.ref f2) = some (.type "function")
  fn : PySem.W.fnIn K f2 = true
  op : PySem.W.nsIn K cStatics "thirdparty.any" = some none
  mg : mg "super" = none
section
variable {P : Program} {w : World} {K : PySem.W.Frag} {mg : Str → Option Value} {base : Heap} {f f2 cc C : Addr} {fd : FuncData} {k : Nat} {sp : Sp}
theorem supX_of (D : IniS P K mg C f f2 cc fd) {A : Around} {outer : List Env} {s : Shared} {H : Hp} {E : XK} : SupX (cxI P w K mg base f fd.code cc A outer s H E).nox C f2 where
  ks := by
    show scI.names.lookup _ = _
    decide +kernel
  kc := by
    show scI.names.lookup _ = _
    decide +kernel
  kself := by
    show scI.names.lookup _ = _
    decide +kernel
  n0 := rfl
  fu := by
    obtain ⟨oc, od, osl, e⟩ := D.lk
    obtain ⟨ar, a1, a2⟩ := arI
    exact ⟨f, _, fd, ar, rfl, e, rfl, by rw [D.pa]; exact a1, a2⟩
  co := D.co
  tp := D.tp
  cell := by
    obtain ⟨ob, e1, e2⟩ := D.cell
    exact ⟨cc, ob, rfl, e1, e2⟩
  cls := D.cls
  sub := D.sub
  find := D.find
  ty := D.ty
  fn := D.fn
  op := D.op
  mg := D.mg
abbrev XI (P : Program) (w : World) (K : PySem.W.Frag) (mg : Str → Option Value) (base : Heap) (f : Addr) (fd : FuncData) (cc : Addr) (A : Around) (outer : List Env) (s : Shared) (H : Hp) (E : XK) : Cx := (cxI P w K mg base f fd.code cc A outer s H E).nox
theorem ini_ok (D : IniS P K mg C f f2 cc fd) (len : ∀ vs H Q E, sp vs H Q E → vs.length = 2)
    (hbody : ∀ (A : Around) (outer : List Env) (s : Shared) (H : Hp) (vs : List V) (Q : VK) (E : XK), Room k (A.deeper (envI s.heap.objs.size f fd.code cc)) → sp vs H Q E →
      ∃ (t0 t1 t2 tr : TS) (U : L2.St → Hp → Prop), PS (XI P w K mg base f fd cc A outer s H E) (stI 0) t0 ∧ PS (XI P w K mg base f fd cc A outer s H E) (stI 1) t1 ∧ PS (XI P w K mg base f fd cc A outer s H E) (stI 2) t2 ∧ PSs (XI P w K mg base f fd cc A outer s H E) (bdI.drop 4) tr ∧
        tSeq t0 (tSeq t1 t2) { nx := U, rt := Q } (L2.start NI vs) H ∧
        (∀ σ1 H1 s1, Inv (XI P w K mg base f fd cc A outer s H E) [] σ1 H1 s1 → U σ1 H1 → ∃ R : Hp → Prop, _root_.PySem.wpAt (model P w) (XI P w K mg base f fd cc A outer s H E).A (.func bdI (XI P w K mg base f fd cc A outer s H E).env) (exec (stI 3) (XI P w K mg base f fd cc A outer s H E).env) (SP (XI P w K mg base f fd cc A outer s H E) [] { nx := fun σ' H' => σ' = σ1 ∧ R H', rt := fun _ _ => False }) (fun _ _ => False) s1 ∧
          ∀ H2, R H2 → tr { nx := fun _ H' => Q .non H', rt := Q } σ1 H2)) :
    FnOk P w K mg base CX0 (k + 1) f fd ["self", "tree"] sp := by
  refine ⟨len, fun A outer s H args us vs Q E room e0 hb r hsp => ?_⟩
  have hl := len _ _ _ _ hsp
  match vs, hl with
  | [x, y], _ =>
    cases r with
    | cons rx r2 => cases r2 with
      | cons ry r3 =>
        cases r3
        rename_i u v
        obtain ⟨oc, od, osl, lk⟩ := D.lk
        obtain ⟨ob, c1, c2⟩ := D.cell
        have inK : K.In s.heap := e0.mod.kin.keeps fun b o e => (e0.bs b o e).1
        have noL : s.heap.NoLimit := e0.mod.nolimit.keeps fun b o e => (e0.bs b o e).1
        have hcd : s.heap.CodeRec fd.code fd.qualname := by rw [D.qn]; exact PySem.W.codeRec_of inK D.code
        refine codeAny_call_function room.depth (inK _ _ lk) rfl (by rw [D.sc]; rfl) (by rw [D.sc]; rfl) D.bd hcd (hb _ _ _ _ ?_)
        rw [D.sc, D.gl, D.cl, D.qn, D.bl]
        refine newEnv2 (by rfl) (by decide +kernel) (by decide +kernel) fun h' tk hns kp => ?_
        have kp' : ∀ b o, s.heap.get? b = some o → h'.get? b = some o := fun b o e => kp b o (Nat.ne_of_lt (Heap.lt_size e)) (pushCells_keeps _ _ b o (Heap.get?_push_of_some _ e))
        refine ⟨noL.keeps kp', ?_⟩
        have I : Inv (XI P w K mg base f fd cc A outer s H E) [] (L2.start NI [x, y]) H { s with heap := h', toks := tk } := (inv_startI (C := C) (E := E) room.hd e0 rx ry c1 c2 hns kp).wish _
        obtain ⟨t0, t1, t2, tr, U, p0, p1, p2, pr, hq, hsup⟩ := hbody A outer s H [x, y] Q E (room.deeper _) hsp
        refine ks_codeAny_funcAt (ks_wpAt_mono (Q := SP (XI P w K mg base f fd cc A outer s H E) [] { nx := fun _ H' => Q .non H', rt := Q }) (E := fun _ _ => False) ?_ (fun fl s' hs => ?_) fun e s' hs => hs.elim)
        · show _root_.PySem.wpAt _ _ _ (execs (stI 0 :: stI 1 :: stI 2 :: stI 3 :: bdI.drop 4) _) _ _ _
          refine at_cons p0 I hq fun σa Ha sa Ia qa => at_cons p1 Ia qa fun σb Hb sb Ib qb => at_cons p2 Ib qb fun σ1 H1 s1 I1 q1 => ?_
          obtain ⟨R, hs, hR⟩ := hsup σ1 H1 s1 I1 q1
          refine ks_wpAt_execs_cons (ks_wpAt_mono hs (fun fl s' q => ?_) fun _ _ z => z)
          cases fl with
          | next =>
            obtain ⟨σ', H2, I2, rfl, q⟩ := q
            exact PySem.wpAt_of_wpAny (pr.run [] s' _ H2 _ I2 (hR H2 q))
          | ret v =>
            obtain ⟨_, _, _, _, _, q⟩ := q
            exact q.elim
          | brk =>
            obtain ⟨_, _, _, q⟩ := q
            exact q.elim
          | cont =>
            obtain ⟨_, _, _, q⟩ := q
            exact q.elim
        · have fin : ∀ {σ' : L2.St} {H' : Hp} {v : V} {u : Value}, Inv (cxI P w K mg base f fd.code cc A outer s H E) [] σ' H' s' → RelV v u → Q v H' → CE outer P w H s Q u s' :=
            fun {_ H9 v _} J rv q => ⟨v, H9, J.os, J.bare, J.base, J.hok, rv, q⟩
          cases fl with
          | ret u =>
            obtain ⟨_, _, _, J, rv, q⟩ := hs
            exact fin J.unwish rv q
          | next =>
            obtain ⟨σ', H', J, q⟩ := hs
            exact fin (v := V.non) (u := Value.none) J.unwish rfl q
          | brk =>
            obtain ⟨_, _, _, q⟩ := hs
            exact False.elim q
          | cont =>
            obtain ⟨_, _, _, q⟩ := hs
            exact False.elim q
end
end Fk

set_option Elab.async false
set_option linter.all false
set_option maxRecDepth 100000
set_option maxHeartbeats 4000000
namespace Fk
open PySem PySem.Spec PyProof.Rows L2
/-! ### what stands goes on standing, but for instances -/
def Sti (H H' : Hp) : Prop := ∀ b o, H b = some o → (∀ C dx fs, o ≠ .ins C dx fs) → H' b = some o
theorem Sti.of {H H' : Hp} (k : Same H H') : Sti H H' := fun b o e _ => k b o e
theorem Sti.refl (H : Hp) : Sti H H := fun _ _ e _ => e
theorem Sti.trans {H H1 H2 : Hp} (x : Sti H H1) (y : Sti H1 H2) : Sti H H2 := fun b o e n => y b o (x b o e n) n
theorem Sti.but {a C dx : Addr} {fs : List (Str × V)} {H H' : Hp} (k : But a H H') (e : H a = some (.ins C dx fs)) : Sti H H' := fun b o eb n => k b o (fun z => by rw [z, e] at eb; exact n _ _ _ (Option.some.inj eb).symm) eb
theorem Sti.put {a C dx : Addr} {fs gs : List (Str × V)} {H : Hp} (e : H a = some (.ins C dx fs)) : Sti H (upd H a (.ins C dx gs)) := Sti.but But.upd e
theorem Sti.lst {H H' : Hp} (k : Sti H H') {b : Addr} {xs : List V} (e : H b = some (.lst xs)) : H' b = some (.lst xs) := k b _ e fun _ _ _ z => nomatch z
theorem Sti.tup {H H' : Hp} (k : Sti H H') {b : Addr} {xs : List V} (e : H b = some (.tup xs)) : H' b = some (.tup xs) := k b _ e fun _ _ _ z => nomatch z
theorem Sti.dK {H H' : Hp} (k : Sti H H') {b : Addr} {xs : List (Key × V)} (e : H b = some (.dK xs)) : H' b = some (.dK xs) := k b _ e fun _ _ _ z => nomatch z
theorem Sti.tups {H H' : Hp} (k : Sti H H') : Tups H H' := fun _ _ e => k.tup e
theorem CellsAt.sti {H H' : Hp} {a : Addr} {cs : List (Str × Nat)} (h : CellsAt H a cs) (k : Sti H H') : CellsAt H' a cs := by
  obtain ⟨zs, e1, e2, e3⟩ := h
  exact ⟨zs, e1, k.lst e2, fun z hz => k.tup (e3 z hz)⟩
theorem FlagsAt.sti {t : Tr} {ns : List Str} {H H' : Hp} {fl : Addr} (h : FlagsAt t ns H fl) (k : Sti H H') : FlagsAt t ns H' fl := by
  obtain ⟨kvs, e, a, b⟩ := h
  refine ⟨kvs, k.dK e, fun F hF => ?_, b⟩
  obtain ⟨p, e1, e2⟩ := a F hF
  exact ⟨p, e1, k.lst e2⟩
theorem LeavesAt.sti {t : Tr} {H H' : Hp} {lf : Addr} (h : LeavesAt t H lf) (k : Sti H H') : LeavesAt t H' lf := by
  obtain ⟨kvs, e, a⟩ := h
  exact ⟨kvs, k.dK e, a⟩
section
variable {P : Program} {w : World} {K : PySem.W.Frag} {mg : Str → Option Value} {base : Heap} {f : Addr} {fd : FuncData} {C : Addr}
theorem putF_le {g : Str} {v : V} {fs : List (Str × V)} {n : Nat} (h : fs.length ≤ n) : (putF g v fs).length ≤ n + 1 := Nat.le_trans (length_putF g v fs) (Nat.succ_le_succ h)
/-! ### Plan.__init__ -/
def spPlanInit (C : Addr) : Sp := fun vs H Q _ => ∃ (a n c s dx : Addr) (xs ys zs : List V), vs = [.ref a, .ref n, .ref c, .ref s] ∧ H a = some (.ins C dx []) ∧ H n = some (.lst xs) ∧ H c = some (.lst ys) ∧ H s = some (.lst zs) ∧
  ∀ n' c' s' H', But a H H' → H' a = some (.ins C dx [("names", .ref n'), ("cells", .ref c'), ("sizes", .ref s')]) → H' n' = some (.lst xs) → H' c' = some (.lst ys) → H' s' = some (.lst zs) → Q .non H'
theorem sc_Plan___init__ : FnScope ["self", "names", "cells", "sizes"] ["self", "names", "cells", "sizes"] (defScope (met 30 0)) := ⟨rfl, rfl, rfl, by decide +kernel, rfl, by decide +kernel, by decide +kernel⟩
theorem ok_plan_init (T : Free mg) (PC : PCls K C) (F : Std K "__init__" "Plan.__init__" (met 30 0) f fd) : FnOk P w K mg base CX0 1 f fd ["self", "names", "cells", "sizes"] (spPlanInit C) := by
  have cl := PC.cl
  refine std_ok F sc_Plan___init__ (fun vs H Q E h => ?_) (fun cdv A outer s H vs Q E hr h => ?_)
  · obtain ⟨_, _, _, _, _, _, _, _, rfl, _⟩ := h; rfl
  · obtain ⟨a, n, c, sz, dx, xs, ys, zs, rfl, ha, hn, hc, hs, k⟩ := h
    refine ⟨_, (pss_cons (ps_fld (pv 0) (pe_callTy call_list_of (by rfl) T.list (by decide +kernel) (pa_cons (pv 1) pa_nil)) rfl)
        (pss_cons (ps_fld (pv 0) (pe_callTy call_list_of (by rfl) T.list (by decide +kernel) (pa_cons (pv 2) pa_nil)) rfl)
        (pss_one (ps_fld (pv 0) (pe_callTy call_list_of (by rfl) T.list (by decide +kernel) (pa_cons (pv 3) pa_nil)) rfl)))), ?_⟩
    have na : n ≠ a := ne_of hn ha (by intro z; cases z)
    have ca : c ≠ a := ne_of hc ha (by intro z; cases z)
    have sa : sz ≠ a := ne_of hs ha (by intro z; cases z)
    refine ⟨_, rfl, n, _, rfl, .inl (SqL.of hn), fun n' nn => ?_⟩
    have n'a : a ≠ n' := ne_of_none ha nn
    refine ⟨_, rfl, a, C, dx, _, rfl, (by rw [upd_ne n'a]; exact ha), cl, PC.names, (by decide), ?_⟩
    have hc1 : (upd (upd H n' (.lst xs)) a (.ins C dx (putF "names" (.ref n') []))) c = some (.lst ys) := by rw [upd_ne ca, upd_ne (ne_of_none hc nn)]; exact hc
    have hs1 : (upd (upd H n' (.lst xs)) a (.ins C dx (putF "names" (.ref n') []))) sz = some (.lst zs) := by rw [upd_ne sa, upd_ne (ne_of_none hs nn)]; exact hs
    have hn1 : (upd (upd H n' (.lst xs)) a (.ins C dx (putF "names" (.ref n') []))) n' = some (.lst xs) := by rw [upd_ne (Ne.symm n'a)]; exact upd_same
    have b1 : But a H (upd (upd H n' (.lst xs)) a (.ins C dx (putF "names" (.ref n') []))) := ((But.refl a H).new nn).trans But.upd
    generalize hH1 : upd (upd H n' (.lst xs)) a (.ins C dx (putF "names" (.ref n') [])) = H1 at *
    have ha1 : H1 a = some (.ins C dx (putF "names" (.ref n') [])) := by rw [← hH1]; exact upd_same
    refine ⟨_, rfl, c, _, rfl, .inl (SqL.of hc1), fun c' nc => ?_⟩
    have c'a : a ≠ c' := ne_of_none ha1 nc
    refine ⟨_, rfl, a, C, dx, _, rfl, (by rw [upd_ne c'a]; exact ha1), cl, PC.cells, Nat.lt_of_le_of_lt (putF_le (fs := []) (n := 0) (Nat.le_refl 0)) (by decide), ?_⟩
    have hs2 : (upd (upd H1 c' (.lst ys)) a (.ins C dx (putF "cells" (.ref c') (putF "names" (.ref n') [])))) sz = some (.lst zs) := by rw [upd_ne sa, upd_ne (ne_of_none hs1 nc)]; exact hs1
    have hn2 : (upd (upd H1 c' (.lst ys)) a (.ins C dx (putF "cells" (.ref c') (putF "names" (.ref n') [])))) n' = some (.lst xs) := by rw [upd_ne (Ne.symm n'a), upd_ne (ne_of_none hn1 nc)]; exact hn1
    have hc2 : (upd (upd H1 c' (.lst ys)) a (.ins C dx (putF "cells" (.ref c') (putF "names" (.ref n') [])))) c' = some (.lst ys) := by rw [upd_ne (Ne.symm c'a)]; exact upd_same
    have b2 : But a H (upd (upd H1 c' (.lst ys)) a (.ins C dx (putF "cells" (.ref c') (putF "names" (.ref n') [])))) := (b1.new nc).trans But.upd
    generalize hH2 : upd (upd H1 c' (.lst ys)) a (.ins C dx (putF "cells" (.ref c') (putF "names" (.ref n') []))) = H2 at *
    have ha2 : H2 a = some (.ins C dx (putF "cells" (.ref c') (putF "names" (.ref n') []))) := by rw [← hH2]; exact upd_same
    refine ⟨_, rfl, sz, _, rfl, .inl (SqL.of hs2), fun s' ns => ?_⟩
    have s'a : a ≠ s' := ne_of_none ha2 ns
    refine ⟨_, rfl, a, C, dx, _, rfl, (by rw [upd_ne s'a]; exact ha2), cl, PC.sizes, Nat.lt_of_le_of_lt (putF_le (putF_le (fs := []) (n := 0) (Nat.le_refl 0))) (by decide), ?_⟩
    refine k n' c' s' _ ((b2.new ns).trans But.upd) upd_same ?_ ?_ ?_
    · rw [upd_ne (Ne.symm n'a), upd_ne (ne_of_none hn2 ns)]; exact hn2
    · rw [upd_ne (Ne.symm c'a), upd_ne (ne_of_none hc2 ns)]; exact hc2
    · rw [upd_ne (Ne.symm s'a)]; exact upd_same
end
/-! ### loops, by one word a turn -/
theorem loop_it {J : It} {n : Nat} {G : Hp → Prop} {Y : Nat → Hp → V → Hp → Prop} (w : Walk J n G Y) {B : (Hp → Prop) → V → Hp → Prop} {Qd : Hp → Prop} {H0 : Hp} (Pv : Nat → Hp → Prop) (h0 : Pv 0 H0) (hG : ∀ i H, i ≤ n → Pv i H → G H)
    (hs : ∀ i x H H', i < n → Pv i H → Y i H x H' → B (Pv (i + 1)) x H') (hd : ∀ H, Pv n H → Qd H) :
    ∃ W : Nat → Nat → Hp → Prop, (∃ m, W 0 m H0) ∧ ∀ i m H, W i m H → (J.stop i H ∧ Qd H) ∨ (J.go i H ∧ ∃ Nx : Hp → Prop, (∀ H', Nx H' → ∃ m', m' < m ∧ W (i + 1) m' H') ∧ ∀ x H', J.yld i H x H' → B Nx x H') := by
  refine ⟨fun i m H => m = n - i ∧ i ≤ n ∧ Pv i H, ⟨n, rfl, Nat.zero_le _, h0⟩, fun i m H => ?_⟩
  rintro ⟨rfl, hi, p⟩
  by_cases hlt : i < n
  · exact .inr ⟨w.goes i H hlt (hG i H hi p), Pv (i + 1), fun H' p' => ⟨n - (i + 1), by omega, rfl, hlt, p'⟩, fun x H' y => hs i x H H' hlt p (w.yields i H x H' hlt (hG i H hi p) y)⟩
  · obtain rfl : i = n := by omega
    exact .inl ⟨w.stops H (hG i H hi p), hd H p⟩
end Fk

set_option Elab.async false
set_option linter.all false
set_option maxRecDepth 100000
set_option maxHeartbeats 4000000
namespace Fk
open PySem PySem.Spec PyProof.Rows L2
structure NdI : Prop where
  nd : NI.Nodup
theorem sc_ForkPlan___init__ : NdI := ⟨by decide +kernel⟩
section
variable {P : Program} {w : World} {K : PySem.W.Frag} {mg : Str → Option Value} {base : Heap} {f f2 cc C : Addr} {fd fd2 : FuncData}
/-- the cells as they are laid -/
def CellI (H1 : Hp) (D : Addr) (cs : List (Str × Nat)) (H : Hp) : Prop := Same H1 H ∧ CellsAt H D cs
theorem CellI.push {H1 H : Hp} {D p : Addr} {cs : List (Str × Nat)} {x : Str} {l : Nat} (h : CellI H1 D cs H) (nD : H1 D = none) (np : H p = none) :
    ∃ acc, (upd H p (.tup [.str x, .int (l : Int)])) D = some (.lst acc) ∧ acc.length = cs.length ∧ CellI H1 D (cs ++ [(x, l)]) (upd (upd H p (.tup [.str x, .int (l : Int)])) D (.lst (acc ++ [.ref p]))) := by
  obtain ⟨sm, zs, e1, e2, e3⟩ := h
  have pD : D ≠ p := ne_of_none e2 np
  refine ⟨_, (by rw [upd_ne pD]; exact e2), ?_, sOwn (sNew sm np) nD, zs ++ [(p, x, l)], by rw [List.map_append, e1]; rfl, by rw [upd_same, List.map_append]; rfl, fun z hz => ?_⟩
  · rw [← e1, List.length_map, List.length_map]
  · rcases List.mem_append.mp hz with h | h
    · have := e3 z h
      unfold CellAt at this ⊢
      rw [upd_ne (ne_of this e2 (by intro z; cases z)), upd_ne (ne_of_none this np)]; exact this
    · have : z = (p, x, l) := by simpa using h
      subst this
      unfold CellAt
      rw [upd_ne (Ne.symm pD), upd_same]
theorem flat2 (n : Nat) : (List.replicate n [V.int 2]).flatten = List.replicate n (V.int 2) := by
  induction n with
  | zero => rfl
  | succ n ih => rw [List.replicate_succ, List.flatten_cons, ih]; rfl
def spInit (C : Addr) : Sp := fun vs H Q _ => ∃ (a dx : Addr) (v : V) (t : Tr), vs = [.ref a, v] ∧ H a = some (.ins C dx []) ∧ TrV H v t ∧ t.leaves.Nodup ∧ t.leaves.length ≤ 12 ∧ (∀ x ∈ t.leaves, Nm x) ∧
  ∀ ns H', ns.Perm t.leaves → sortedS ns = true → But a H H' → PlanAt H' C a t ns → Q .non H'
theorem ok_init (T : Free mg) (PC : PCls K C) (D : IniS P K mg C f f2 cc fd) (F2 : FnOk P w K mg base CX0 1 f2 fd2 ["self", "names", "cells", "sizes"] (spPlanInit C)) (B2 : Binds K fd2 ["self", "names", "cells", "sizes"] [])
    (C_ways_of : Cal P w K mg base 4 "ways_of" spWaysOf) (C_flags_by_fork : Cal P w K mg base 5 "flags_by_fork" spFlagsBy) (C_format_tree : Cal P w K mg base 13 "format_tree" spFormat) : FnOk P w K mg base CX0 14 f fd ["self", "tree"] (spInit C) := by
  have cl := PC.cl
  refine ini_ok D (fun vs H Q E h => ?_) (fun A outer s H vs Q E hr h => ?_)
  · obtain ⟨_, _, _, _, rfl, _⟩ := h; rfl
  · obtain ⟨a, dx, v, t, rfl, ha, tv, nd, n12, nms, k⟩ := h
    have hu := hu_of hr
    have hh : t.height ≤ 11 := by have := t.height_lt; omega
    have wlen : ∀ x, x ∈ t.leaves → (t.way x).length ≤ 11 := fun x hx => Nat.le_trans (t.way_len nd hx) hh
    refine ⟨_, _, _, _, fun σ1 H1 => ∃ (wd nm c : Addr) (ns : List Str), σ1 = [some (.ref a), some v, some (.ref wd), some (.ref nm), some (.ref c), none, none, none] ∧ ns.Perm t.leaves ∧ sortedS ns = true ∧ Same H H1 ∧ H1 wd = some (.dK (wayK (t.ways []))) ∧ H1 nm = some (.lst (ns.map V.str)) ∧ CellsAt H1 c (cellsOf t.way ns), 
      (ps_set (i := 2) sc_ForkPlan___init__.nd rfl (.inr rfl) (pe_f C_ways_of hr (pa_cons (pv 1) pa_nil))),
      (ps_set (i := 3) sc_ForkPlan___init__.nd rfl (.inl rfl) (pe_callB (call_sortedD rfl) (by rfl) T.sorted (by decide +kernel) (pa_cons (pv 2) pa_nil))),
      (ps_setLc2 (i := 4) rfl sc_ForkPlan___init__.nd rfl rfl (sw_true rfl rfl rfl (by decide +kernel)) (pi_list (pv 3)) (blkOk_by (own := [("writer", 5), ("level", 6)]) (N := ["self", "tree", "ways", "names", "cells", "writer", "level", "way"]) (sc := defScope (met 33 0)) (by decide +kernel)) (vs1 := [6]) (by decide) (fun _ _ _ _ _ => (pg_name (i := 5) sc_ForkPlan___init__.nd rfl (.inl rfl))) (fun _ _ _ _ _ => pts_nil) (fun _ _ _ _ _ => (pi_range1 (by rfl) T.range (pa_cons (pe_callB call_len_str (by rfl) T.len (by decide +kernel) (pa_cons (pe_dget hu (pv 2) (pv 5) (fun _ _ => rfl)) pa_nil)) pa_nil))) (fun _ _ _ _ _ => (pg_name (i := 6) sc_ForkPlan___init__.nd rfl (.inl rfl))) (fun _ _ _ _ _ => pts_nil) (fun _ _ _ _ _ => (pe_tup (pa_cons (pv 5) (pa_cons (pv 6) pa_nil))))),
      (pss_cons (ps_fld (pv 0) (pv 1) rfl)
        (pss_cons (ps_fld (pv 0) (pv 2) rfl)
        (pss_cons (ps_fld (pv 0) (pe_f C_flags_by_fork hr (pa_cons (pv 1) (pa_cons (pv 2) (pa_cons (pv 4) pa_nil)))) rfl)
        (pss_cons (ps_fld (pv 0) (pe_lock (pe_dc rfl sc_ForkPlan___init__.nd (pi_items (pv 2)) (blkOk_by (own := [("writer", 5), ("way", 7)]) (N := ["self", "tree", "ways", "names", "cells", "writer", "level", "way"]) (sc := defScope (met 33 0)) (by decide +kernel)) (fun _ _ _ _ _ => (pg_tupK (K := K) (n := 2) rfl rfl (pgs_cons (pg_name (i := 5) sc_ForkPlan___init__.nd rfl (.inl rfl)) (pgs_cons (pg_name (i := 7) sc_ForkPlan___init__.nd rfl (.inl rfl)) pgs_nil)))) (fun _ _ _ _ _ => pts_nil) (fun _ _ _ _ _ => (pv 7)) (fun _ _ _ _ _ => (pv 5)))) rfl)
        (pss_one (ps_fld (pv 0) (pe_f C_format_tree hr (pa_cons (pv 1) pa_nil)) rfl)))))), ?_, ?_⟩
    · refine ⟨_, rfl, v, t, rfl, tv, nd, n12, nms, fun wd H1 sm1 nwd hwd => ?_⟩
      refine ⟨_, rfl, wd, _, t.leaves, rfl, .inl hwd, by rw [wayK_keys, t.ways_names], by omega, fun ys nm pm so nnm => ?_⟩
      have sm2 : Same H (upd H1 nm (.lst (ys.map V.str))) := sNew sm1 nnm
      have hwd2 : (upd H1 nm (.lst (ys.map V.str))) wd = some (.dK (wayK (t.ways []))) := by rw [upd_ne (ne_of_none hwd nnm)]; exact hwd
      have ylen : ys.length ≤ 12 := by rw [pm.length_eq]; exact n12
      refine ⟨_, rfl, nm, rfl, ⟨_, SqL.of upd_same⟩, fun D nD => ?_⟩
      refine loop_it (walk_list (K := K) (a := nm) (xs := ys.map V.str)) (fun i H' => CellI (upd H1 nm (.lst (ys.map V.str))) D (cellsOf t.way (ys.take i)) H') ⟨sNew (Same.refl _) nD, [], rfl, upd_same, fun z hz => nomatch hz⟩ (fun i H' _ h => SqL.of (h.1 _ _ upd_same)) ?_ ?_
      · rintro i y H2 H3 hi hC ⟨rfl, hy⟩
        obtain ⟨x, hx, rfl⟩ := str_at hy
        have hxl : x ∈ t.leaves := pm.mem_iff.mp (List.mem_of_getElem? hx)
        have wl := wlen x hxl
        have dw : DGet H3 wd (.str x) (some (.str (enc (t.way x)))) := by
          have := DGet.k (k := kS x) (hC.1 _ _ hwd2)
          rwa [way_val nd hxl] at this
        have clen : (cellsOf t.way (ys.take i)).length ≤ 132 := by
          refine Nat.le_trans (cells_le t.way 11 _ fun z hz => wlen z (pm.mem_iff.mp (List.mem_of_mem_take hz))) ?_
          rw [List.length_take]
          have : min i ys.length * 11 ≤ 12 * 11 := Nat.mul_le_mul_right _ (by omega)
          omega
        refine ⟨rfl, _, rfl, _, rfl, wd, _, rfl, dw, _, rfl, small_line (n := (enc (t.way x)).length) (by rw [enc_len]; omega), _, rfl, by omega, by rw [enc_len]; omega, ?_⟩
        refine loop_it (walk_range (lo := 0) (n := (enc (t.way x)).length)) (fun j H' => CellI (upd H1 nm (.lst (ys.map V.str))) D (cellsOf t.way (ys.take i) ++ (cellsOne t.way x).take j) H') (by rw [List.take_zero, List.append_nil]; exact hC) (fun _ _ _ _ => trivial) ?_ ?_
        · rintro j y H4 H5 hj hC4 ⟨rfl, rfl⟩
          rw [enc_len] at hj
          have ci : (cellsOne t.way x)[j]? = some (x, j) := by
            rw [cellsOne_range, List.getElem?_map, List.getElem?_range hj]; rfl
          refine ⟨rfl, _, rfl, _, rfl, (by show 2 ≤ sizeLine; decide), fun p np => ?_⟩
          obtain ⟨acc, h1, h2, h3⟩ := hC4.push (x := x) (l := j) nD np
          have e0 : (0 + (j : Int)) = (j : Int) := Int.zero_add _
          simp only [e0]
          refine ⟨acc, h1, small_line' ?_, ?_⟩
          · rw [h2, List.length_append, List.length_take, cellsOne_len]; omega
          · rw [take_snoc ci, ← List.append_assoc]; exact h3
        · rintro H4 hC4
          rw [cells_succ _ _ _ _ hx]
          have : (cellsOne t.way x).take (enc (t.way x)).length = cellsOne t.way x := List.take_of_length_le (by rw [enc_len, cellsOne_len]; exact Nat.le_refl _)
          rw [this] at hC4
          exact hC4
      · rintro H2 hC
        have e4 : ys.take (ys.map V.str).length = ys := by rw [List.length_map]; exact List.take_length
        rw [e4] at hC
        exact ⟨wd, nm, D, ys, rfl, pm, so, sm2.trans hC.1, hC.1 _ _ hwd2, hC.1 _ _ upd_same, hC.2⟩
    · rintro σ1 H1 s1 I1 ⟨wd, nm, c, ns, rfl, pm, so, sm1, hwd, hnm, hc⟩
      refine ⟨fun H3 => But a H1 H3 ∧ ∃ n' c' s', H3 a = some (.ins C dx [("names", .ref n'), ("cells", .ref c'), ("sizes", .ref s')]) ∧ H3 n' = some (.lst (ns.map V.str)) ∧ CellsAt H3 c' (cellsOf t.way ns) ∧ H3 s' = some (.lst (List.replicate (cellN t ns) (.int 2))), ?_, ?_⟩
      · obtain ⟨zs, z1, z2, z3⟩ := hc
        have hzl : zs.length ≤ 132 := by
          have h1 := congrArg List.length z1
          rw [List.length_map] at h1
          have h2 := cells_le t.way 11 ns fun z hz => wlen z (pm.mem_iff.mp hz)
          have h3 : ns.length ≤ 12 := by rw [pm.length_eq]; exact n12
          have : ns.length * 11 ≤ 12 * 11 := Nat.mul_le_mul_right _ (by omega)
          omega
        refine sup_init (supX_of D) F2 (hr.mono (by decide)) B2 pass0 (pa_cons (pv 3) (pa_cons (pv 4) (pa_cons (pe_op op_rep (pe_lst (pa_cons pe_int pa_nil)) (pe_callB call_len_seq (by rfl) T.len (by decide +kernel) (pa_cons (pv 4) pa_nil))) pa_nil))) I1 rfl (sm1 _ _ ha) (fun q nq => ?_) rfl rfl rfl rfl rfl
        have hnm2 : (upd H1 q (.met f2 a)) nm = some (.lst (ns.map V.str)) := by rw [upd_ne (ne_of_none hnm nq)]; exact hnm
        have hc2 : (upd H1 q (.met f2 a)) c = some (.lst (zs.map fun z => V.ref z.1)) := by rw [upd_ne (ne_of_none z2 nq)]; exact z2
        have ha2 : (upd H1 q (.met f2 a)) a = some (.ins C dx []) := by rw [upd_ne (ne_of_none (sm1 _ _ ha) nq)]; exact sm1 _ _ ha
        refine ⟨_, rfl, _, rfl, (by show 1 ≤ sizeLine; decide), fun p np => ?_⟩
        have sm3 : Same (upd H1 q (.met f2 a)) (upd (upd H1 q (.met f2 a)) p (.lst [.int 2])) := sNew (Same.refl _) np
        refine ⟨_, rfl, c, _, rfl, .inl (SqL.of (sm3 _ _ hc2)), p, _, _, rfl, rfl, upd_same, by omega, by rw [List.length_map]; omega, small_line (by simp; omega), fun p2 np2 => ?_⟩
        have sm4 := sNew (o := .lst (List.replicate ((zs.map fun z => V.ref z.1).length : Int).toNat [V.int 2]).flatten) sm3 np2
        refine ⟨sm4 _ _ upd_same, a, nm, c, p2, dx, _, _, _, rfl, sm4 _ _ ha2, sm4 _ _ hnm2, sm4 _ _ hc2, upd_same, fun n' c' s' H3 bt hi hn' hc' hs' => ?_⟩
        have st1 : Same H1 (upd (upd (upd H1 q (.met f2 a)) p (.lst [.int 2])) p2 (.lst (List.replicate ((zs.map fun z => V.ref z.1).length : Int).toNat [V.int 2]).flatten)) := (sNew (Same.refl H1) nq).trans sm4
        refine ⟨(But.of st1).trans bt, n', c', s', hi, hn', ⟨zs, z1, hc', fun z hz => ?_⟩, ?_⟩
        · exact (Sti.but bt (st1 _ _ (sm1 _ _ ha))).tup (st1 _ _ (z3 z hz))
        · rw [hs', flat2]
          have e5 : ((zs.map fun z => V.ref z.1).length : Int).toNat = cellN t ns := by
            rw [List.length_map]
            have := congrArg List.length z1
            rw [List.length_map] at this
            unfold cellN
            omega
          rw [e5]
      · rintro H3 ⟨bt, n', c', s', hi, hn', hc', hs'⟩
        have l3 : ([("names", .ref n'), ("cells", .ref c'), ("sizes", .ref s')] : List (Str × V)).length ≤ 3 := Nat.le_refl 3
        have st3 : Sti H1 H3 := Sti.but bt (sm1 _ _ ha)
        have tv3 : TrV H3 v t := (tv.mono (Tups.of sm1)).mono st3.tups
        -- tree, ways
        refine ⟨_, rfl, _, rfl, a, C, dx, _, rfl, hi, cl, PC.tree, Nat.lt_of_le_of_lt l3 (by decide), ?_⟩
        have l4 := putF_le (g := "tree") (v := v) l3
        refine ⟨_, rfl, _, rfl, a, C, dx, _, rfl, upd_same, cl, PC.ways, Nat.lt_of_le_of_lt l4 (by decide), ?_⟩
        have l5 := putF_le (g := "ways") (v := .ref wd) l4
        rw [upd_upd]
        generalize hf5 : putF "ways" (.ref wd) (putF "tree" v [("names", .ref n'), ("cells", .ref c'), ("sizes", .ref s')]) = fs5 at *
        have st5 : Sti H3 (upd H3 a (.ins C dx fs5)) := Sti.put hi
        have bt5 : But a H (upd H3 a (.ins C dx fs5)) := ((But.of sm1).trans bt).trans But.upd
        have hi5 : (upd H3 a (.ins C dx fs5)) a = some (.ins C dx fs5) := upd_same
        have s15 := st3.trans st5
        have tv5 := tv3.mono st5.tups
        generalize upd H3 a (.ins C dx fs5) = H5 at *
        -- flags
        refine ⟨_, rfl, _, rfl, _, rfl, v, wd, c, t, ns, rfl, tv5, nd, n12, nms, pm, s15.dK hwd, hc.sti s15, fun fl H6 sm6 nfl hfl => ?_⟩
        have hi6 := sm6 _ _ hi5
        refine ⟨_, rfl, a, C, dx, _, rfl, hi6, cl, PC.flags, Nat.lt_of_le_of_lt l5 (by decide), ?_⟩
        have l6 := putF_le (g := "_flags") (v := .ref fl) l5
        generalize hf6 : putF "_flags" (.ref fl) fs5 = fs6 at *
        have st7 : Sti H6 (upd H6 a (.ins C dx fs6)) := Sti.put hi6
        have bt7 : But a H (upd H6 a (.ins C dx fs6)) := (bt5.trans (But.of sm6)).trans But.upd
        have hi7 : (upd H6 a (.ins C dx fs6)) a = some (.ins C dx fs6) := upd_same
        have s17 := (s15.trans (Sti.of sm6)).trans st7
        have hfl7 := hfl.sti st7
        have s37 := (st5.trans (Sti.of sm6)).trans st7
        generalize upd H6 a (.ins C dx fs6) = H7 at *
        -- leaves
        have hwd7 := s17.dK hwd
        refine ⟨wd, _, hwd7, True.intro, fun od => ?_⟩
        refine ⟨_, rfl, wd, od, _, rfl, upd_same, fun Dl nDl => ?_⟩
        have Dw : Dl ≠ wd := Ne.symm (ne_of_none upd_same nDl)
        have hnames : (t.ways []).map (·.1) = t.leaves := t.ways_names []
        have hway : ∀ q ∈ t.ways [], t.way q.1 = q.2 := fun q hq => by
          obtain ⟨v', e1, e2⟩ := (t.mem_ways [] q.1 q.2).mp hq
          rw [List.nil_append] at e1
          rw [t.way_eq nd e2, e1]
        have hleaf : ((t.ways []).map fun q => (kS (enc q.2), V.str q.1)) = leafK t t.leaves := by
          unfold leafK
          rw [← hnames, List.map_map]
          exact List.map_congr_left fun q hq => by
            show (kS (enc q.2), V.str q.1) = (kS (enc (t.way q.1)), V.str q.1)
            rw [hway q hq]
        have hkeys : (((t.ways []).map fun q => (kS (enc q.2), V.str q.1)).map (·.1)).Nodup := by rw [hleaf]; exact leafK_nodup nd nd fun x h => h
        have hwlen : (t.ways []).length ≤ 12 := by
          have := congrArg List.length hnames
          rw [List.length_map] at this
          omega
        refine loop_it (walk_items (d := wd) (o := od) (kvs := wayK (t.ways []))) (fun i H' => Same (upd H7 wd (.frz od (.dK (wayK (t.ways []))))) H' ∧ H' Dl = some (.dK (((t.ways []).take i).map fun q => (kS (enc q.2), V.str q.1)))) ⟨sNew (Same.refl _) nDl, upd_same⟩ (fun i H' _ h => h.1 _ _ upd_same) ?_ ?_
        · rintro i y H8 H9 hi8 ⟨sm8, hD8⟩ ⟨T', xk, yv, rfl, nT, rfl, hxk, hyv⟩
          obtain ⟨q, hq, rfl, rfl⟩ : ∃ q, (t.ways [])[i]? = some q ∧ xk = .str q.1 ∧ yv = .str (enc q.2) := by
            have e1 : (wayK (t.ways []))[i]?.map (fun kv => kV kv.1) = some xk := hxk
            have e2 : (wayK (t.ways []))[i]?.map Prod.snd = some yv := hyv
            unfold wayK at e1 e2
            rw [List.getElem?_map] at e1 e2
            cases e : (t.ways [])[i]? with
            | none => rw [e] at e1; cases e1
            | some q =>
              rw [e] at e1 e2
              exact ⟨q, rfl, (Option.some.inj e1).symm, (Option.some.inj e2).symm⟩
          have hD9 : (upd H8 T' (.tup [.str q.1, .str (enc q.2)])) Dl = some (.dK (((t.ways []).take i).map fun q => (kS (enc q.2), V.str q.1))) := by rw [upd_ne (ne_of_none hD8 nT)]; exact hD8
          have nk : kS (enc q.2) ∉ (((t.ways []).take i).map fun q => (kS (enc q.2), V.str q.1)).map (·.1) := fun m => by
            have hk := hkeys
            have e1 : t.ways [] = (t.ways []).take i ++ ([q] ++ (t.ways []).drop (i + 1)) := by
              rw [← List.append_assoc, ← take_snoc hq, List.take_append_drop]
            rw [e1, List.map_append, List.map_append] at hk
            exact (List.nodup_append.mp hk).2.2 _ m _ (by simp) rfl
          refine ⟨T', _, rfl, SqT.of upd_same, rfl, _, _, rfl, _, _, rfl, rfl, rfl, ?_⟩
          refine ⟨_, rfl, _, rfl, _, kS (enc q.2), rfl, hD9, small_line' (by rw [List.length_map, List.length_take]; omega), sOwn (sNew sm8 nT) nDl, ?_⟩
          rw [upd_same, put_end _ nk, take_snoc hq, List.map_append]; rfl
        · rintro H8 ⟨sm8, hD8⟩
          have e4 : (t.ways []).take (wayK (t.ways [])).length = t.ways [] := List.take_of_length_le (by unfold wayK; rw [List.length_map]; exact Nat.le_refl _)
          rw [e4, hleaf] at hD8
          refine ⟨sm8 _ _ upd_same, ?_⟩
          have sm9 : Same H7 (upd H8 wd (.dK (wayK (t.ways [])))) := fun b o e => by
            by_cases hb : b = wd
            · rw [hb] at e ⊢
              rw [hwd7] at e
              rw [upd_same]; exact e
            · rw [upd_ne hb]
              exact sm8 _ _ (by rw [upd_ne hb]; exact e)
          have hD9 : (upd H8 wd (.dK (wayK (t.ways [])))) Dl = some (.dK (leafK t t.leaves)) := by rw [upd_ne Dw]; exact hD8
          generalize upd H8 wd (.dK (wayK (t.ways []))) = H9 at *
          have hi9 := sm9 _ _ hi7
          refine ⟨_, rfl, a, C, dx, _, rfl, hi9, cl, PC.leaves, Nat.lt_of_le_of_lt l6 (by decide), ?_⟩
          have l7 := putF_le (g := "_leaves") (v := .ref Dl) l6
          generalize hf7 : putF "_leaves" (.ref Dl) fs6 = fs7 at *
          have st10 : Sti H9 (upd H9 a (.ins C dx fs7)) := Sti.put hi9
          have bt10 : But a H (upd H9 a (.ins C dx fs7)) := (bt7.trans (But.of sm9)).trans But.upd
          have hi10 : (upd H9 a (.ins C dx fs7)) a = some (.ins C dx fs7) := upd_same
          have s710 := (Sti.of sm9).trans st10
          have hD10 := st10.dK hD9
          generalize upd H9 a (.ins C dx fs7) = H10 at *
          -- written
          refine ⟨_, rfl, v, t, rfl, tv3.mono (s37.trans s710).tups, nd, n12, nms, fun z H11 sm11 => ?_⟩
          have hi11 := sm11 _ _ hi10
          refine ⟨_, rfl, a, C, dx, _, rfl, hi11, cl, PC.written, Nat.lt_of_le_of_lt l7 (by decide), ?_⟩
          have st12 : Sti H11 (upd H11 a (.ins C dx (putF "_written" (.str z) fs7))) := Sti.put hi11
          have s712 := (s710.trans (Sti.of sm11)).trans st12
          have s312 := s37.trans s712
          refine k ns _ pm so ((bt10.trans (But.of sm11)).trans But.upd) ⟨dx, n', c', s', v, wd, fl, Dl, z, ?_, s312.lst hn', hc'.sti s312, s312.lst hs', s712.dK hwd7, hfl7.sti s712, ?_⟩
          · rw [upd_same, ← hf7, ← hf6, ← hf5]
            rfl
          · exact LeavesAt.of nd (List.Perm.refl _) (((Sti.of sm11).trans st12).dK hD10)
end
end Fk

set_option Elab.async false
set_option linter.all false
set_option maxRecDepth 100000
set_option maxHeartbeats 4000000
namespace Fk
open PySem PySem.Spec PyProof.Rows L2
theorem TrOk.way_ne {t : Tr} {ns : List Str} (ok : TrOk t ns) {x y : Str} (hx : x ∈ ns) (hy : y ∈ ns) (ne : x ≠ y) : t.way x ≠ [] := Fk.way_ne t ns ok.nd ok.pm hx hy ne
/-- no pair whose ways part at the top loses -/
theorem told_in {t : Tr} {ns : List Str} (ok : TrOk t ns) {bs : List Bool} (hl : bs.length = cellN t ns) {x y : Str} (hx : x ∈ ns) (hy : y ∈ ns) (ne : x ≠ y) (hp : parts t x y = true) : told t ns (after2 t ns bs x y) ∈ [x, y] := by
  have wx := ok.way_ne hx hy ne
  have wy := ok.way_ne hy hx (Ne.symm ne)
  have hp' : (t.way x).getD 0 false ≠ (t.way y).getD 0 false := of_decide_eq_true hp
  by_cases h : board t.way ns bs [] = (t.way x).getD 0 false
  · rw [(told_parted t ns bs ok.nd ok.pm hl hx hy wx wy hp' h).1]; simp
  · have h2 : board t.way ns bs [] = (t.way y).getD 0 false := by
      revert h hp'
      cases board t.way ns bs [] <;> cases (t.way x).getD 0 false <;> cases (t.way y).getD 0 false <;> simp
    rw [(told_parted t ns bs ok.nd ok.pm hl hy hx wy wx (Ne.symm hp') h2).2]; simp
theorem parts_comm {t : Tr} {x y : Str} (h : parts t x y = true) : parts t y x = true := decide_eq_true (Ne.symm (of_decide_eq_true h))
section
variable {P : Program} {w : World} {K : PySem.W.Frag} {mg : Str → Option Value} {base : Heap} {f : Addr} {fd : FuncData} {C : Addr}
/-! ### _law_asked -/
def spAsked (C : Addr) : Sp := fun vs H Q _ => ∃ (a st : Addr) (t : Tr) (ns : List Str) (bs : List Bool) (x y : Str) (wh : Bool), vs = [.ref a, .ref st, .str x, .str y, .bl wh] ∧ PlanAt H C a t ns ∧ TrOk t ns ∧ StAt H st bs ∧ bs.length = cellN t ns ∧ x ∈ ns ∧ y ∈ ns ∧ x ≠ y ∧
  (wh = true → ∀ p H', Same H H' → H' p = some (.tup [.str "found", .bl (!decide (told t ns (after2 t ns bs x y) ∈ [x, y]))]) → Q (.ref p) H') ∧ (wh = false → ∀ p q H', Same H H' → H' p = some (.tup [.str "found", .ref q]) → StAt H' q (after2 t ns bs x y) → Q (.ref p) H')
theorem sc__law_asked : FnScope ["_law_plan", "_law_state_here", "_law_a", "_law_b", "_law_whole", "e", "_law_kinds"] ["_law_plan", "_law_state_here", "_law_a", "_law_b", "_law_whole"] (defScope (top 52)) := ⟨rfl, rfl, rfl, by decide +kernel, rfl, by decide +kernel, by decide +kernel⟩
theorem ok_asked (C_overlapped : Cal P w K mg base 5 "overlapped" (spOver C)) (C_loses : Cal P w K mg base 6 "loses" (spLoses C)) (F : Std K "_law_asked" "_law_asked" (top 52) f fd) (hm : mg "_law_asked" = some (.ref f)) : Cal P w K mg base 7 "_law_asked" (spAsked C) := by
  refine cal_of F hm (fun _ _ _ _ _ _ us hl => match us, hl with | [_, _, _, _, _], _ => rfl) sc__law_asked (fun vs H Q E h => ?_) (fun cdv A outer s H vs Q E hr h => ?_)
  · obtain ⟨_, _, _, _, _, _, _, _, rfl, _⟩ := h; rfl
  · obtain ⟨a, st, t, ns, bs, x, y, wh, rfl, pa, ok, hs, hl, hx, hy, ne, k1, k2⟩ := h
    refine ⟨_, (pss_cons (ps_try_thru0 (pss_cons (ps_if (pt_val (pv 4)) (pss_one (ps_ret (pe_tup (pa_cons pe_str (pa_cons (pe_f C_loses hr (pa_cons (pv 0) (pa_cons (pv 1) (pa_cons (pv 2) (pa_cons (pv 3) pa_nil))))) pa_nil))))) pss_nil)
        (pss_one (ps_ret (pe_tup (pa_cons pe_str (pa_cons (pe_f C_overlapped hr (pa_cons (pv 0) (pa_cons (pv 1) (pa_cons (pv 2) (pa_cons (pv 3) pa_nil))))) pa_nil)))))))
        (pss_one (ps_ret (pe_tup (pa_cons pe_str (pa_cons pe_str pa_nil)))))), ?_⟩
    refine ⟨_, rfl, wh, rfl, ite2 (fun c => ?_) (fun c => ?_)⟩
    · refine ⟨_, rfl, _, rfl, _, rfl, _, rfl, a, st, t, ns, bs, x, y, rfl, pa, ok, hs, hl, hx, hy, ne, fun H1 sm1 => ⟨(by show 2 ≤ sizeLine; decide), fun p np => ?_⟩⟩
      exact k1 c p _ (sNew sm1 np) upd_same
    · have c : wh = false := by cases wh <;> simp_all
      refine ⟨_, rfl, _, rfl, _, rfl, _, rfl, a, st, t, ns, bs, x, y, rfl, pa, ok, hs, hl, hx, hy, ne, fun q H1 sm1 nq hq => ⟨(by show 2 ≤ sizeLine; decide), fun p np => ?_⟩⟩
      exact k2 c p q _ (sNew sm1 np) upd_same (hq.same (sNew (Same.refl _) np))
/-! ### _law_never -/
def spNever (C : Addr) : Sp := fun vs H Q _ => ∃ (a st pl : Addr) (t : Tr) (ns : List Str) (bs : List Bool) (ys : List V), vs = [.ref a, .ref st, .ref pl] ∧ PlanAt H C a t ns ∧ TrOk t ns ∧ StAt H st bs ∧ bs.length = cellN t ns ∧ H pl = some (.lst ys) ∧
  (∀ y ∈ ys, ∃ p u v, y = .ref p ∧ H p = some (.tup [.str u, .str v]) ∧ u ∈ ns ∧ v ∈ ns ∧ u ≠ v ∧ parts t u v = true) ∧ ∀ H', Same H H' → Q (.bl true) H'
theorem sc__law_never : FnScope ["_law_plan", "_law_state_here", "_law_pairs", "_law_a", "_law_b", "_law_first", "_law_second", "_law_found"] ["_law_plan", "_law_state_here", "_law_pairs"] (defScope (top 55)) := ⟨rfl, rfl, rfl, by decide +kernel, rfl, by decide +kernel, by decide +kernel⟩
theorem ok_never (T : Free mg) (C__law_asked : Cal P w K mg base 7 "_law_asked" (spAsked C)) (F : Std K "_law_never" "_law_never" (top 55) f fd) (hm : mg "_law_never" = some (.ref f)) : Cal P w K mg base 8 "_law_never" (spNever C) := by
  refine cal_of F hm (fun _ _ _ _ _ _ us hl => match us, hl with | [_, _, _], _ => rfl) sc__law_never (fun vs H Q E h => ?_) (fun cdv A outer s H vs Q E hr h => ?_)
  · obtain ⟨_, _, _, _, _, _, _, rfl, _⟩ := h; rfl
  · obtain ⟨a, st, pl, t, ns, bs, ys, rfl, pa, ok, hs, hl, hpl, hys, k⟩ := h
    refine ⟨_, (pss_cons (ps_for PassesOwn.never rfl (pi_list (pv 2)) (pg_tup rfl (pgs_cons (pg_name (i := 3) sc__law_never.nd rfl (.inl rfl)) (pgs_cons (pg_name (i := 4) sc__law_never.nd rfl (.inl rfl)) pgs_nil))) (pss_one (ps_for PassesOwn.never rfl (pi_tup (pe_tup (pa_cons (pe_tup (pa_cons (pv 3) (pa_cons (pv 4) pa_nil))) (pa_cons (pe_tup (pa_cons (pv 4) (pa_cons (pv 3) pa_nil))) pa_nil)))) (pg_tup rfl (pgs_cons (pg_name (i := 5) sc__law_never.nd rfl (.inl rfl)) (pgs_cons (pg_name (i := 6) sc__law_never.nd rfl (.inl rfl)) pgs_nil))) (pss_cons (ps_set (i := 7) sc__law_never.nd rfl (.inl rfl) (pe_f C__law_asked hr (pa_cons (pv 0) (pa_cons (pv 1) (pa_cons (pv 5) (pa_cons (pv 6) (pa_cons pe_bl pa_nil)))))))
        (pss_one (ps_if (PW.pt (pw_or (pt_cmpR op_ne (pe_ix ix_tup (pv 7) pe_int (fun _ _ => rfl)) pe_str (nomark _)) (pw_or (pt_not (pt_val (pe_callB call_isi (by rfl) T.isi (by decide +kernel) (pa_cons (pe_ix ix_tup (pv 7) pe_int (fun _ _ => rfl)) (pa_cons (pe_bltn (v := .ty "bool") (u := .type "bool") (by rfl) T.bool (by decide +kernel) rfl) pa_nil))))) (pw_or1 (pt_val (pe_ix ix_tup (pv 7) pe_int (fun _ _ => rfl))))))) (pss_one (ps_ret pe_bl)) pss_nil))))))
        (pss_one (ps_ret pe_bl))), ?_⟩
    refine ⟨_, rfl, pl, rfl, ⟨_, SqL.of hpl⟩, ?_⟩
    refine for_list (K := K) (a := pl) (xs := ys) (fun i σ H' => ∃ (v3 v4 v5 v6 v7 : Option V), σ = [some (.ref a), some (.ref st), some (.ref pl), v3, v4, v5, v6, v7] ∧ Same H H')
      ⟨none, none, none, none, none, rfl, Same.refl H⟩ (fun i σ H' _ ⟨_, _, _, _, _, _, sm⟩ => SqL.of (sm _ _ hpl)) ?_ ?_
    · rintro i y σ H1 hi ⟨v3, v4, v5, v6, v7, rfl, sm⟩
      obtain ⟨p, u, v, rfl, hp, hu, hv, ne, hpt⟩ := hys y (List.mem_of_getElem? hi)
      refine ⟨p, _, rfl, SqT.of (sm _ _ hp), rfl, _, _, rfl, _, _, rfl, rfl, ?_⟩
      refine ⟨_, rfl, _, rfl, (by show 2 ≤ sizeLine; decide), fun p1 n1 => ⟨_, rfl, _, rfl, (by show 2 ≤ sizeLine; decide), fun p2 n2 => ⟨(by show 2 ≤ sizeLine; decide), fun q nq => ⟨q, rfl, ⟨_, SqT.of upd_same⟩, ?_⟩⟩⟩⟩
      have sm3 : Same H (upd (upd (upd H1 p1 (.tup [.str u, .str v])) p2 (.tup [.str v, .str u])) q (.tup [.ref p1, .ref p2])) := sNew (sNew (sNew sm n1) n2) nq
      have hp1 : (upd (upd (upd H1 p1 (.tup [.str u, .str v])) p2 (.tup [.str v, .str u])) q (.tup [.ref p1, .ref p2])) p1 = some (.tup [.str u, .str v]) := sNew (sNew (Same.refl _) n2) nq _ _ upd_same
      have hp2 : (upd (upd (upd H1 p1 (.tup [.str u, .str v])) p2 (.tup [.str v, .str u])) q (.tup [.ref p1, .ref p2])) p2 = some (.tup [.str v, .str u]) := sNew (Same.refl _) nq _ _ upd_same
      generalize hH2 : (upd (upd (upd H1 p1 (.tup [.str u, .str v])) p2 (.tup [.str v, .str u])) q (.tup [.ref p1, .ref p2])) = H2 at *
      have hq2 : H2 q = some (.tup [.ref p1, .ref p2]) := by rw [← hH2]; exact upd_same
      refine for_tup (K := K) (a := q) (xs := [.ref p1, .ref p2]) (fun j σ H' => ∃ (v5 v6 v7 : Option V), σ = [some (.ref a), some (.ref st), some (.ref pl), some (.str u), some (.str v), v5, v6, v7] ∧ Same H2 H')
        ⟨v5, v6, v7, rfl, Same.refl _⟩ (fun j σ H' _ ⟨_, _, _, _, s'⟩ => SqT.of (s' _ _ hq2)) ?_ ?_
      · rintro j y σ H3 hj ⟨v5, v6, v7, rfl, s3⟩
        obtain ⟨pp, x1, x2, rfl, hpp, m1, m2, ne', hpt'⟩ : ∃ pp x1 x2, y = .ref pp ∧ H2 pp = some (.tup [.str x1, .str x2]) ∧ x1 ∈ ns ∧ x2 ∈ ns ∧ x1 ≠ x2 ∧ parts t x1 x2 = true := by
          have hm := List.mem_of_getElem? hj
          rcases List.mem_cons.mp hm with rfl | hm
          · exact ⟨p1, u, v, rfl, hp1, hu, hv, ne, hpt⟩
          · have : y = .ref p2 := by simpa using hm
            exact ⟨p2, v, u, this, hp2, hv, hu, Ne.symm ne, parts_comm hpt⟩
        have smA := sm3.trans s3
        refine ⟨pp, _, rfl, SqT.of (s3 _ _ hpp), rfl, _, _, rfl, _, _, rfl, rfl, ?_⟩
        refine ⟨_, rfl, _, rfl, _, rfl, _, rfl, a, st, t, ns, bs, x1, x2, true, rfl, pa.same smA, ok, hs.same smA, hl, m1, m2, ne', fun _ z H4 s4 hz => ?_, fun c => nomatch c⟩
        have hin := told_in ok hl m1 m2 ne' hpt'
        rw [decide_eq_true hin] at hz
        refine ⟨_, rfl, z, _, _, _, rfl, rfl, SqT.of hz, atI_nat (j := 0) rfl, rfl, _, rfl, ?_⟩
        refine ite2 (fun c => absurd c (by simp)) (fun _ => ?_)
        refine ⟨_, rfl, z, _, _, _, rfl, rfl, SqT.of hz, atI_nat (j := 1) rfl, _, _, _, _, _, rfl, .ty _, .base (.bl _), kBB, _, rfl, iteF ?_⟩
        refine ⟨_, rfl, z, _, _, _, rfl, rfl, SqT.of hz, atI_nat (j := 1) rfl, _, rfl, iteF ⟨_, _, _, rfl, s3.trans s4⟩⟩
      · rintro σ H3 ⟨v5, v6, v7, rfl, s3⟩
        exact ⟨_, _, _, _, _, rfl, sm3.trans s3⟩
    · rintro σ H1 ⟨v3, v4, v5, v6, v7, rfl, sm⟩
      exact k H1 sm
end
end Fk

set_option Elab.async false
set_option linter.all false
set_option maxRecDepth 100000
set_option maxHeartbeats 4000000
namespace Fk
open PySem PySem.Spec PyProof.Rows L2
theorem StAt.but {b a : Addr} {H H' : Hp} {bs : List Bool} (h : StAt H a bs) (k : But b H H') (bx : Bx H b) : StAt H' a bs := k _ _ (fun e => by
  obtain ⟨r, s, t, z⟩ := bx
  unfold StAt at h
  rw [e, z] at h; cases h) h
theorem But.sti {b : Addr} {H H' : Hp} (k : But b H H') (bx : Bx H b) : ∀ a o, H a = some o → (∀ r s t, o ≠ .lst [.int r, .int s, .int t]) → H' a = some o := fun a o e n => k _ _ (fun z => by
  obtain ⟨r, s, t, q⟩ := bx
  rw [z, q] at e
  exact n r s t (Option.some.inj e).symm) e
/-- what stood before the box was laid stands whatever is drawn -/
theorem kp_but {H0 H H' : Hp} {b : Addr} (sm : Same H0 H) (n : H0 b = none) (k : But b H H') : Same H0 H' := fun a o e => k _ _ (ne_of_none e n) (sm _ _ e)
theorem tog_board {t : Tr} {ns : List Str} {bs : List Bool} {i : Nat} (hi : i < bs.length) (hm : i ∈ flags t.way ns []) : board t.way ns (bs.set i (!bs.getD i false)) [] = !board t.way ns bs [] := by
  have := px_tog bs i hi (flags t.way ns []) (idx_nodup _ _ _)
  unfold tog at this
  unfold board
  rw [this, decide_eq_true hm, Bool.xor_true]
section
variable {P : Program} {w : World} {K : PySem.W.Frag} {mg : Str → Option Value} {base : Heap} {f : Addr} {fd : FuncData} {C : Addr}
/-! ### _law_lost -/
def spLost (C : Addr) : Sp := fun vs H Q _ => ∃ (b pl bk : Addr) (t : Tr) (ns : List Str) (x y : Str), vs = [.ref b, .ref pl, .ref bk, .str x, .str y] ∧ Bx H b ∧ (∃ H0, Same H0 H ∧ H0 b = none ∧ PlanAt H0 C pl t ns ∧ BookAt H0 bk t ns) ∧ TrOk t ns ∧ x ∈ ns ∧ y ∈ ns ∧ x ≠ y ∧ parts t x y = false ∧
  ∀ H', But b H H' → Bx H' b → Q (.bl true) H'
theorem sc__law_lost : FnScope ["_law_box_here", "_law_plan", "_law_book_here", "_law_a", "_law_b", "_law_state_here", "_law_at", "_law_named", "_law_first", "_law_second", "_law_found"] ["_law_box_here", "_law_plan", "_law_book_here", "_law_a", "_law_b"] (defScope (top 56)) := ⟨rfl, rfl, rfl, by decide +kernel, rfl, by decide +kernel, by decide +kernel⟩
theorem ok_lost (T : Free mg) (cl : Cls K C) (C__law_take : Cal P w K mg base 2 "_law_take" spTake) (C__law_state : Cal P w K mg base 3 "_law_state" spState) (C__law_side : Cal P w K mg base 1 "_law_side" spSide) (C__law_after : Cal P w K mg base 1 "_law_after" spAfter)
    (C__law_teller : Cal P w K mg base 2 "_law_teller" spTeller) (C__law_asked : Cal P w K mg base 7 "_law_asked" (spAsked C)) (M_told : Met P w K mg base 3 C "told" (spTold C)) (F : Std K "_law_lost" "_law_lost" (top 56) f fd) (hm : mg "_law_lost" = some (.ref f)) : Cal P w K mg base 8 "_law_lost" (spLost C) := by
  refine cal_of F hm (fun _ _ _ _ _ _ us hl => match us, hl with | [_, _, _, _, _], _ => rfl) sc__law_lost (fun vs H Q E h => ?_) (fun cdv A outer s H vs Q E hr h => ?_)
  · obtain ⟨_, _, _, _, _, _, _, rfl, _⟩ := h; rfl
  · obtain ⟨b, pl, bk, t, ns, x, y, rfl, bx, ⟨H0, sm0, nb, pa0, bo0⟩, ok, hx, hy, ne, hpt, k⟩ := h
    have hu := hu_of hr
    have clen := ok.clen
    have wx := ok.way_ne hx hy ne
    have wy := ok.way_ne hy hx (Ne.symm ne)
    have hxl := ok.mem.mp hx
    have hG : ([] : List Bool) ∈ t.forks [] := by
      have := fork_of_cell ok.nd hxl (List.length_pos_iff.mpr wx)
      rwa [List.take_zero] at this
    have hpos : 0 < (flags t.way ns []).length := List.length_pos_of_mem ((mem_flags t.way hx (List.length_pos_iff.mpr wx)).mpr List.take_zero)
    have hp' : (t.way x).getD 0 false = (t.way y).getD 0 false := by
      have := of_decide_eq_false hpt
      exact Classical.byContradiction fun h => this h
    refine ⟨_, (pss_cons (ps_set (i := 5) sc__law_lost.nd rfl (.inl rfl) (pe_f C__law_state hr (pa_cons (pv 0) (pa_cons (pe_ix ix_tup (pv 2) pe_int (fun _ _ => rfl)) pa_nil))))
        (pss_cons (ps_set (i := 6) sc__law_lost.nd rfl (.inl rfl) (pe_ix ix_list (pe_dget hu (pe_ix ix_tup (pv 2) pe_int (fun _ _ => rfl)) pe_str (fun _ _ => rfl)) (pe_f C__law_take hr (pa_cons (pv 0) (pa_cons (pe_callB call_len_seq (by rfl) T.len (by decide +kernel) (pa_cons (pe_dget hu (pe_ix ix_tup (pv 2) pe_int (fun _ _ => rfl)) pe_str (fun _ _ => rfl)) pa_nil)) pa_nil))) (fun _ _ => rfl)))
        (C8.pss_cut (ps_if (pt_cmpR op_eq (pe_ix ix_str pe_str (pe_f C__law_side hr (pa_cons (pv 2) (pa_cons (pv 5) (pa_cons pe_str pa_nil)))) (fun _ _ => rfl)) (pe_ix ix_str (pe_dget hu (pe_ix ix_tup (pv 2) pe_int (fun _ _ => rfl)) (pv 3) (fun _ _ => rfl)) pe_int (fun _ _ => rfl)) (nomark _)) (pss_one (ps_set (i := 5) sc__law_lost.nd rfl (.inl rfl) (pe_f C__law_after hr (pa_cons (pv 5) (pa_cons (pe_lst (pa_cons (pe_tup (pa_cons (pv 6) (pa_cons (pe_op op_sub pe_int (pe_ix ix_tup (pv 5) (pv 6) (fun _ _ => rfl))) pa_nil))) pa_nil)) pa_nil))))) pss_nil)
        (pss_cons (ps_set (i := 7) sc__law_lost.nd rfl (.inl rfl) (pe_f C__law_teller hr (pa_cons (pv 2) (pa_cons (pv 5) pa_nil))))
        (pss_cons (ps_for PassesOwn.never rfl (pi_tup (pe_tup (pa_cons (pe_tup (pa_cons (pv 3) (pa_cons (pv 4) pa_nil))) (pa_cons (pe_tup (pa_cons (pv 4) (pa_cons (pv 3) pa_nil))) pa_nil)))) (pg_tup rfl (pgs_cons (pg_name (i := 8) sc__law_lost.nd rfl (.inl rfl)) (pgs_cons (pg_name (i := 9) sc__law_lost.nd rfl (.inl rfl)) pgs_nil))) (pss_cons (ps_set (i := 10) sc__law_lost.nd rfl (.inl rfl) (pe_f C__law_asked hr (pa_cons (pv 1) (pa_cons (pv 5) (pa_cons (pv 8) (pa_cons (pv 9) (pa_cons pe_bl pa_nil)))))))
        (pss_cons (ps_if (PW.pt (pw_or (pt_cmpR op_ne (pe_ix ix_tup (pv 10) pe_int (fun _ _ => rfl)) pe_str (nomark _)) (pw_or (pt_not (pt_val (pe_callB call_isi (by rfl) T.isi (by decide +kernel) (pa_cons (pe_ix ix_tup (pv 10) pe_int (fun _ _ => rfl)) (pa_cons (pe_bltn (v := .ty "bool") (u := .type "bool") (by rfl) T.bool (by decide +kernel) rfl) pa_nil))))) (pw_or1 (pt_not (pt_val (pe_ix ix_tup (pv 10) pe_int (fun _ _ => rfl)))))))) (pss_one (ps_ret pe_bl)) pss_nil)
        (pss_cons (ps_set (i := 10) sc__law_lost.nd rfl (.inl rfl) (pe_f C__law_asked hr (pa_cons (pv 1) (pa_cons (pv 5) (pa_cons (pv 8) (pa_cons (pv 9) (pa_cons pe_bl pa_nil)))))))
        (pss_one (ps_if (PW.pt (pw_or (pt_cmpR op_ne (pe_ix ix_tup (pv 10) pe_int (fun _ _ => rfl)) pe_str (nomark _)) (pw_or1 (pt_cmpR op_ne (pe_m M_told cl hr (pv 1) (pa_cons (pe_ix ix_tup (pv 10) pe_int (fun _ _ => rfl)) pa_nil)) (pv 7) (nomark _))))) (pss_one (ps_ret pe_bl)) pss_nil))))))
        (pss_one (ps_ret (pe_cmpR op_eq (pe_m M_told cl hr (pv 1) (pa_cons (pv 5) pa_nil)) (pv 7) (nomark _))))))))), ?_⟩
    obtain ⟨wd, bd, fl, lf, e1, e2, e3, e4⟩ := (bo0.same sm0).got
    refine ⟨_, rfl, _, rfl, bk, _, _, _, rfl, rfl, SqT.of e1, atI_nat (j := 4) rfl, b, cellN t ns, rfl, bx, by omega, fun bs st H1 hbs bt1 bx1 nst hst => ?_⟩
    have sm1 : Same H0 H1 := kp_but sm0 nb bt1
    have bo1 := bo0.same sm1
    obtain ⟨wd, bd, fl, lf, e1, e2, ⟨kvs, f1, f2, f3⟩, e4⟩ := bo1.got
    obtain ⟨p, f4, f5⟩ := f2 [] hG
    rw [enc_nil] at f4
    have dg : DGet H1 fl (.str "") (some (.ref p)) := f4 ▸ DGet.k (k := kS "") f1
    have flen := flags_len t ns []
    refine ⟨_, rfl, bk, _, _, _, rfl, rfl, SqT.of e1, atI_nat (j := 2) rfl, fl, _, rfl, dg, _, rfl, _, rfl, bk, _, _, _, rfl, rfl, SqT.of e1, atI_nat (j := 2) rfl, fl, _, rfl, dg, p, _, rfl, .inl (SqL.of f5), b, ((flags t.way ns []).length : Int), (by unfold natV; rw [List.length_map]; rfl), bx1, by omega, by omega, fun d H2 d0 d1 bt2 bx2 => ?_⟩
    have sm2 : Same H0 H2 := kp_but sm1 nb bt2
    have f5b : H2 p = some (.lst (natV (flags t.way ns []))) := by
      obtain ⟨wd', bd', fl', lf', e1', _, ⟨kvs', f1', f2', _⟩, _⟩ := bo0.got
      have q1 := sm1 _ _ e1'
      rw [e1] at q1
      have q2 : fl = fl' := by
        have := (HO.tup.inj (Option.some.inj q1))
        simp at this
        exact this.2.2.1
      subst q2
      have q3 := sm1 _ _ f1'
      rw [f1] at q3
      have q4 : kvs = kvs' := HO.dK.inj (Option.some.inj q3)
      subst q4
      obtain ⟨p', g1, g2⟩ := f2' [] hG
      rw [enc_nil, f4] at g1
      have q5 : p = p' := V.ref.inj (Option.some.inj g1)
      subst q5
      exact sm2 _ _ g2
    obtain ⟨i, hi⟩ : ∃ i, (flags t.way ns [])[d.toNat]? = some i := ⟨_, List.getElem?_eq_getElem (show d.toNat < _ by omega)⟩
    have hif := List.mem_of_getElem? hi
    have hil : i < bs.length := by rw [hbs]; exact flags_lt t.way hif
    have hst2 := hst.but bt2 bx1
    refine ⟨p, _, d, .int (i : Int), rfl, rfl, SqL.of f5b, ?_, ?_⟩
    · have : d = ((d.toNat : Nat) : Int) := by omega
      rw [this]
      refine atI_nat ?_
      rw [natV_at, hi]; rfl
    have bt12 := bt1.trans bt2
    -- the board leads away
    refine ⟨fun σ' H' => ∃ (st' : Addr) (bs' : List Bool), σ' = [some (.ref b), some (.ref pl), some (.ref bk), some (.str x), some (.str y), some (.ref st'), some (.int (i : Int)), none, none, none, none] ∧ StAt H' st' bs' ∧ bs'.length = cellN t ns ∧ board t.way ns bs' [] ≠ (t.way x).getD 0 false ∧ Same H2 H', ?_, ?_⟩
    · have bo2 := bo0.same sm2
      refine ⟨_, rfl, _, rfl, bk, st, t, ns, bs, [], by rw [enc_nil]; rfl, bo2, hst2, hbs, by omega, hG, fun H3 sm3 => ?_⟩
      refine ⟨_, _, _, rfl, rfl, (by decide +kernel), bit_at _, ?_⟩
      obtain ⟨wd3, bd3, fl3, lf3, e13, e23, _, _⟩ := (bo2.same sm3).got
      have dw : DGet H3 wd3 (.str x) (some (.str (enc (t.way x)))) := by
        have := DGet.k (k := kS x) e23
        rwa [way_val ok.nd hxl] at this
      refine ⟨_, rfl, bk, _, _, _, rfl, rfl, SqT.of e13, atI_nat (j := 0) rfl, _, rfl, wd3, _, rfl, dw, _, _, _, rfl, rfl, small_line (n := (enc (t.way x)).length) (by rw [enc_len]; have := ok.wlen hxl; omega), first_at wx, rfl, _, rfl, ?_⟩
      rw [sign_enc, sign_enc]
      refine ite2 (fun c => ?_) (fun c => ?_)
      · have hb : board t.way ns bs [] = (t.way x).getD 0 false := (List.cons.inj (enc_inj (V.str.inj (of_decide_eq_true c)))).1
        have hst3 := hst2.same sm3
        refine ⟨_, rfl, _, rfl, _, rfl, _, rfl, st, _, _, _, rfl, rfl, SqT.of hst3, bitV_at hil, _, _, rfl, rfl, (by show 2 ≤ sizeLine; decide), fun u nu => ⟨(by show 1 ≤ sizeLine; decide), fun row nrow => ?_⟩⟩
        refine ⟨st, row, u, bs, i, !bs.getD i false, rfl, hst3.same (sNew (sNew (Same.refl H3) nu) nrow), upd_same, ?_, hil, fun q H5 sm5 nq hq => ⟨q, _, rfl, hq, ?_, ?_, sm3.trans ((sNew (sNew (Same.refl H3) nu) nrow).trans sm5)⟩⟩
        · rw [← not_bit]
          exact sNew (Same.refl _) nrow _ _ upd_same
        · rw [List.length_set]; exact hbs
        · rw [tog_board hil hif, hb]
          cases (t.way x).getD 0 false <;> simp
      · refine ⟨st, bs, rfl, hst2.same sm3, hbs, fun hb => c (by rw [hb]; exact decide_eq_true rfl), sm3⟩
    · rintro σ3 H3 ⟨st', bs', rfl, hst3, hbs', hb, sm3⟩
      have sm4 := sm2.trans sm3
      have bt13 : But b H H3 := bt12.trans (But.of sm3)
      have bx3 : Bx H3 b := bx2.same sm3
      refine ⟨_, rfl, _, rfl, bk, st', t, ns, bs', rfl, bo0.same sm4, hst3, hbs', by omega, ok.height, fun H4 sm5 => ?_⟩
      have smH4 := sm3.trans sm5
      -- both orders
      refine ⟨_, rfl, _, rfl, (by show 2 ≤ sizeLine; decide), fun p1 n1 => ⟨_, rfl, _, rfl, (by show 2 ≤ sizeLine; decide), fun p2 n2 => ⟨(by show 2 ≤ sizeLine; decide), fun q nq => ⟨q, rfl, ⟨_, SqT.of upd_same⟩, ?_⟩⟩⟩⟩
      have sm6 : Same H4 (upd (upd (upd H4 p1 (.tup [.str x, .str y])) p2 (.tup [.str y, .str x])) q (.tup [.ref p1, .ref p2])) := sNew (sNew (sNew (Same.refl H4) n1) n2) nq
      have hp1 : (upd (upd (upd H4 p1 (.tup [.str x, .str y])) p2 (.tup [.str y, .str x])) q (.tup [.ref p1, .ref p2])) p1 = some (.tup [.str x, .str y]) := sNew (sNew (Same.refl _) n2) nq _ _ upd_same
      have hp2 : (upd (upd (upd H4 p1 (.tup [.str x, .str y])) p2 (.tup [.str y, .str x])) q (.tup [.ref p1, .ref p2])) p2 = some (.tup [.str y, .str x]) := sNew (Same.refl _) nq _ _ upd_same
      generalize hH5 : (upd (upd (upd H4 p1 (.tup [.str x, .str y])) p2 (.tup [.str y, .str x])) q (.tup [.ref p1, .ref p2])) = H5 at *
      have hq5 : H5 q = some (.tup [.ref p1, .ref p2]) := by rw [← hH5]; exact upd_same
      have sm35 : Same H3 H5 := sm5.trans sm6
      refine for_tup (K := K) (a := q) (xs := [.ref p1, .ref p2]) (fun j σ H' => ∃ (v8 v9 v10 : Option V), σ = [some (.ref b), some (.ref pl), some (.ref bk), some (.str x), some (.str y), some (.ref st'), some (.int (i : Int)), some (.str (told t ns bs')), v8, v9, v10] ∧ Same H5 H')
        ⟨none, none, none, rfl, Same.refl _⟩ (fun j σ H' _ ⟨_, _, _, _, s'⟩ => SqT.of (s' _ _ hq5)) ?_ ?_
      · rintro j y' σ H6 hj ⟨v8, v9, v10, rfl, s6⟩
        obtain ⟨pp, x1, x2, rfl, hpp, m1, m2, ne', hp12, hb1⟩ : ∃ pp x1 x2, y' = .ref pp ∧ H5 pp = some (.tup [.str x1, .str x2]) ∧ x1 ∈ ns ∧ x2 ∈ ns ∧ x1 ≠ x2 ∧ (t.way x1).getD 0 false = (t.way x2).getD 0 false ∧ board t.way ns bs' [] ≠ (t.way x1).getD 0 false := by
          have hm := List.mem_of_getElem? hj
          rcases List.mem_cons.mp hm with rfl | hm
          · exact ⟨p1, x, y, rfl, hp1, hx, hy, ne, hp', hb⟩
          · have : y' = .ref p2 := by simpa using hm
            exact ⟨p2, y, x, this, hp2, hy, hx, Ne.symm ne, hp'.symm, by rw [← hp']; exact hb⟩
        obtain ⟨t1, t2, t3⟩ := told_lost t ns bs' ok.nd ok.pm hbs' m1 m2 (ok.way_ne m1 m2 ne') (ok.way_ne m2 m1 (Ne.symm ne')) hp12 hb1
        have smA : Same H0 H6 := (sm4.trans sm35).trans s6
        have hst6 := (hst3.same sm35).same s6
        refine ⟨pp, _, rfl, SqT.of (s6 _ _ hpp), rfl, _, _, rfl, _, _, rfl, rfl, ?_⟩
        refine ⟨_, rfl, _, rfl, _, rfl, _, rfl, pl, st', t, ns, bs', x1, x2, true, rfl, pa0.same smA, ok, hst6, hbs', m1, m2, ne', fun _ z H7 s7 hz => ?_, fun c => nomatch c⟩
        have hin : ¬ told t ns (after2 t ns bs' x1 x2) ∈ [x1, x2] := by rw [t1]; simp [t2, t3]
        rw [decide_eq_false hin] at hz
        refine ⟨_, rfl, z, _, _, _, rfl, rfl, SqT.of hz, atI_nat (j := 0) rfl, rfl, _, rfl, ?_⟩
        refine ite2 (fun c => absurd c (by simp)) (fun _ => ?_)
        refine ⟨_, rfl, z, _, _, _, rfl, rfl, SqT.of hz, atI_nat (j := 1) rfl, _, _, _, _, _, rfl, .ty _, .base (.bl _), kBB, _, rfl, iteF ?_⟩
        refine ⟨_, rfl, z, _, _, _, rfl, rfl, SqT.of hz, atI_nat (j := 1) rfl, _, rfl, iteF ?_⟩
        refine ⟨_, rfl, _, rfl, _, rfl, _, rfl, pl, st', t, ns, bs', x1, x2, false, rfl, pa0.same (smA.trans s7), ok, hst6.same s7, hbs', m1, m2, ne', (fun c => nomatch c), fun _ z2 q2 H8 s8 hz2 hq2 => ?_⟩
        refine ⟨_, rfl, z2, _, _, _, rfl, rfl, SqT.of hz2, atI_nat (j := 0) rfl, rfl, _, rfl, ?_⟩
        refine ite2 (fun c => absurd c (by simp)) (fun _ => ?_)
        have pa8 := pa0.same ((smA.trans s7).trans s8)
        obtain ⟨dx8, n8, c8, sz8, v8', wd8, fl8, lf8, zz8, p8⟩ := id pa8
        refine ⟨_, rfl, pl, dx8, _, rfl, p8.ins, rfl, _, rfl, z2, _, _, _, rfl, rfl, SqT.of hz2, atI_nat (j := 1) rfl, pl, q2, t, ns, _, rfl, pa8, ok, hq2, by unfold after2; rw [togs_len]; exact hbs', fun H9 s9 => ?_⟩
        rw [t1]
        refine ⟨_, rfl, rfl, _, rfl, ite2 (fun c => absurd c (by simp)) (fun _ => ⟨_, _, _, rfl, ((s6.trans s7).trans s8).trans s9⟩)⟩
      · rintro σ H6 ⟨v8, v9, v10, rfl, s6⟩
        have smA : Same H0 H6 := (sm4.trans sm35).trans s6
        have pa6 := pa0.same smA
        obtain ⟨dx8, n8, c8, sz8, v8', wd8, fl8, lf8, zz8, p8⟩ := id pa6
        refine ⟨_, rfl, pl, dx8, _, rfl, p8.ins, rfl, _, rfl, pl, st', t, ns, bs', rfl, pa6, ok, (hst3.same sm35).same s6, hbs', fun H7 s7 => ⟨_, rfl, rfl, ?_⟩⟩
        have : (V.bl (decide (V.str (told t ns bs') = V.str (told t ns bs')))) = .bl true := by rw [decide_eq_true rfl]
        show Q (.bl (decide (V.str (told t ns bs') = V.str (told t ns bs')))) _
        rw [this]
        have smE := (sm35.trans s6).trans s7
        exact k H7 (bt13.trans (But.of smE)) (bx3.same smE)
end
end Fk

set_option Elab.async false
set_option linter.all false
set_option maxRecDepth 100000
set_option maxHeartbeats 8000000
namespace Fk
open PySem PySem.Spec PyProof.Rows L2
theorem seq_same {K : PySem.W.Frag} {H H' : Hp} {a : Addr} {xs : List V} (x : Same H H') (h : SqL K H a xs) : SqL K H' a xs := by
  rcases h with (h | ⟨o, h⟩) | h
  · exact .inl (.inl (x _ _ h))
  · exact .inl (.inr ⟨o, x _ _ h⟩)
  · exact .inr h
theorem few_cells {t : Tr} {ns : List Str} (ok : TrOk t ns) (h : ns.length < 4) : cellN t ns ≤ 6 := by
  have hl : t.leaves.length ≤ 3 := by rw [← ok.pm.length_eq]; omega
  have h2 := cells_le t.way 2 ns fun y hy => by
    have h3 := t.way_len ok.nd (ok.mem.mp hy)
    have := t.height_lt
    omega
  have : ns.length * 2 ≤ 3 * 2 := Nat.mul_le_mul_right _ (by omega)
  unfold cellN
  omega
theorem pairs_skip {q : Str → Str → Bool} {xs : List Str} {x b : Str} {L : List (Str × Str)} {M : List (Str × Str)} (h : ¬ (ltN x b && q x b) = true) (e : M = L ++ (xs.filter fun b => ltN x b && q x b).map fun b => (x, b)) : M = L ++ ((xs ++ [b]).filter fun b => ltN x b && q x b).map fun b => (x, b) := by
  rw [List.filter_append, List.filter_cons_of_neg (p := fun b => ltN x b && q x b) (a := b) h, List.filter_nil, List.append_nil]; exact e
theorem pairs_take {q : Str → Str → Bool} {xs : List Str} {x b : Str} {L : List (Str × Str)} {M : List (Str × Str)} (h : (ltN x b && q x b) = true) (e : M = L ++ (xs.filter fun b => ltN x b && q x b).map fun b => (x, b)) : M ++ [(x, b)] = L ++ ((xs ++ [b]).filter fun b => ltN x b && q x b).map fun b => (x, b) := by
  rw [List.filter_append, List.filter_cons_of_pos (p := fun b => ltN x b && q x b) (a := b) h, List.filter_nil, List.map_append, ← List.append_assoc, ← e]; rfl
theorem pairs_len {q : Str → Str → Bool} {ns : List Str} {i j : Nat} {x : Str} (h : ns.length ≤ 12) {zs : List (Addr × Str × Str)} (e : zs.map (·.2) = pairsL q (ns.take i) ns ++ ((ns.take j).filter fun b => ltN x b && q x b).map fun b => (x, b)) : zs.length ≤ 156 := by
  have e1 := congrArg List.length e
  rw [List.length_map, List.length_append, List.length_map] at e1
  have e2 := pairsL_len q ns (ns.take i)
  have e3 := List.length_filter_le (fun b => ltN x b && q x b) (ns.take j)
  rw [List.length_take] at e2 e3
  have e4 : min i ns.length * ns.length ≤ 12 * 12 := Nat.mul_le_mul (by omega) h
  omega
theorem pairs_all {q : Str → Str → Bool} {ns : List Str} (h : ns.length ≤ 12) {zs : List (Addr × Str × Str)} (e : zs.map (·.2) = pairsL q ns ns) : zs.length ≤ 144 := by
  have e1 := congrArg List.length e
  rw [List.length_map] at e1
  have e2 := pairsL_len q ns ns
  have e4 : ns.length * ns.length ≤ 12 * 12 := Nat.mul_le_mul h h
  omega
theorem pairs_mem {q : Str → Str → Bool} {ns : List Str} {zs : List (Addr × Str × Str)} (e : zs.map (·.2) = pairsL q ns ns) {z : Addr × Str × Str} (hz : z ∈ zs) : z.2.1 ∈ ns ∧ z.2.2 ∈ ns ∧ z.2.1 ≠ z.2.2 ∧ q z.2.1 z.2.2 = true := by
  have hm : z.2 ∈ pairsL q ns ns := by rw [← e]; exact List.mem_map.mpr ⟨z, hz, rfl⟩
  obtain ⟨h1, h2, h3, h4⟩ := mem_pairsL hm
  exact ⟨h1, h2, ltN_ne h3, h4⟩
/-- a list of states -/
def StsAt (H : Hp) (n : Nat) (l : Addr) : Prop := ∃ sts : List Addr, H l = some (.lst (sts.map V.ref)) ∧ ∀ st ∈ sts, ∃ bs : List Bool, bs.length = n ∧ StAt H st bs
section
variable {P : Program} {w : World} {K : PySem.W.Frag} {mg : Str → Option Value} {base : Heap} {f fi C : Addr} {fd fdi : FuncData}
def spLaw (K : PySem.W.Frag) : Sp := fun vs H Q _ => ∃ (a : Addr) (is : List Int), vs = [.ref a] ∧ SqL K H a (is.map V.int) ∧ ∀ H', Q (.bl true) H'
theorem sc_law : FnScope ["_law_script", "_law_box_here", "_law_tree_here", "_law_book_here", "_law_plan", "_law_names_here", "_law_pairs", "_law_others", "_law_a", "_law_b", "_law_found", "_law_states", "_law_some_here", "_law_state_here", "_law_k"] ["_law_script"] (defScope (top 59)) := ⟨rfl, rfl, rfl, by decide +kernel, rfl, by decide +kernel, by decide +kernel⟩
theorem ok_law (T : Free mg) (cl : Cls K C) (MK : Mk K C fi) (FI : FnOk P w K mg base CX0 14 fi fdi ["self", "tree"] (spInit C)) (BI : Binds K fdi ["self", "tree"] []) (hmk : mg "ForkPlan" = some (.ref C))
    (C__law_box : Cal P w K mg base 1 "_law_box" (spBox K)) (C__law_take : Cal P w K mg base 2 "_law_take" spTake) (C__law_many : Cal P w K mg base 3 "_law_many" spMany) (C__law_names : Cal P w K mg base 4 "_law_names" spNames) (C__law_tree : Cal P w K mg base 3 "_law_tree" spTree)
    (C__law_book : Cal P w K mg base 13 "_law_book" spBook) (C__law_parting : Cal P w K mg base 1 "_law_parting" spParting) (C_safe_pairs : Cal P w K mg base 1 "safe_pairs" (spSafe C)) (C__law_is_pairs : Cal P w K mg base 1 "_law_is_pairs" spIsPairs)
    (C__law_state : Cal P w K mg base 3 "_law_state" spState) (C__law_all_states : Cal P w K mg base 1 "_law_all_states" spAll) (C__law_some : Cal P w K mg base 3 "_law_some" spSome) (C__law_never : Cal P w K mg base 8 "_law_never" (spNever C)) (C__law_lost : Cal P w K mg base 8 "_law_lost" (spLost C))
    (F : Std K "law" "law" (top 59) f fd) : FnOk P w K mg base CX0 16 f fd ["_law_script"] (spLaw K) := by
  refine std_ok F sc_law (fun vs H Q E h => ?_) (fun cdv A outer s H vs Q E hr h => ?_)
  · obtain ⟨_, _, rfl, _⟩ := h; rfl
  · obtain ⟨a, is, rfl, hS, k⟩ := h
    have hu := hu_of hr
    refine ⟨_, (pss_cons (ps_set (i := 1) sc_law.nd rfl (.inr rfl) (pe_f C__law_box hr (pa_cons (pv 0) (pa_cons pe_int pa_nil))))
        (pss_cons (ps_set (i := 2) sc_law.nd rfl (.inl rfl) (pe_f C__law_tree hr (pa_cons (pv 1) (pa_cons (pe_f C__law_names hr (pa_cons (pv 1) (pa_cons (pe_f C__law_many hr (pa_cons (pv 1) pa_nil)) pa_nil))) pa_nil))))
        (pss_cons (ps_set (i := 3) sc_law.nd rfl (.inr rfl) (pe_f C__law_book hr (pa_cons (pv 2) pa_nil)))
        (pss_cons (ps_set (i := 4) sc_law.nd rfl (.inl rfl) (pe_make MK FI (hr.mono (by decide)) (by rfl) hmk BI .nil pass0 (pa_cons (pv 2) pa_nil)))
        (pss_cons (ps_set (i := 5) sc_law.nd rfl (.inl rfl) (pe_callB (call_sortedD rfl) (by rfl) T.sorted (by decide +kernel) (pa_cons (pe_ix ix_tup (pv 3) pe_int (fun _ _ => rfl)) pa_nil)))
        (pss_cons (ps_set (i := 6) sc_law.nd rfl (.inl rfl) (pe_lst pa_nil))
        (pss_cons (ps_set (i := 7) sc_law.nd rfl (.inl rfl) (pe_lst pa_nil))
        (pss_cons (ps_for PassesOwn.never rfl (pi_list (pv 5)) (pg_name (i := 8) sc_law.nd rfl (.inl rfl)) (pss_one (ps_for PassesOwn.never rfl (pi_list (pv 5)) (pg_name (i := 9) sc_law.nd rfl (.inl rfl)) (pss_one (ps_if (PW.pt (pw_and (pt_cmpR op_lt_str (pv 8) (pv 9) (nomark _)) (pw_and1 (pt_cmpR op_eq (pe_f C__law_parting hr (pa_cons (pv 3) (pa_cons (pv 8) (pa_cons (pv 9) pa_nil)))) pe_str (nomark _))))) (pss_one (ps_expr (pe_bm PySem.F.plainAttrs_list PySem.F.slot_list_append PySem.F.type_list_append mt_append (pv 6) (pa_cons (pe_tup (pa_cons (pv 8) (pa_cons (pv 9) pa_nil))) pa_nil)))) (pss_one (ps_if (pt_cmpR op_lt_str (pv 8) (pv 9) (nomark _)) (pss_one (ps_expr (pe_bm PySem.F.plainAttrs_list PySem.F.slot_list_append PySem.F.type_list_append mt_append (pv 7) (pa_cons (pe_tup (pa_cons (pv 8) (pa_cons (pv 9) pa_nil))) pa_nil)))) pss_nil)))))))
        (pss_cons (ps_set (i := 10) sc_law.nd rfl (.inl rfl) (pe_f C_safe_pairs hr (pa_cons (pv 4) pa_nil)))
        (pss_cons (ps_if (pt_not (pt_val (pe_f C__law_is_pairs hr (pa_cons (pv 10) (pa_cons (pv 6) pa_nil))))) (pss_one (ps_ret pe_bl)) pss_nil)
        (pss_cons (ps_expr (pe_bm PySem.F.plainAttrs_list PySem.F.slot_list_append PySem.F.type_list_append mt_append (pv 10) (pa_cons (pe_tup (pa_cons pe_str (pa_cons pe_str pa_nil))) pa_nil)))
        (pss_cons (ps_if (pt_not (pt_val (pe_f C__law_is_pairs hr (pa_cons (pe_f C_safe_pairs hr (pa_cons (pv 4) pa_nil)) (pa_cons (pv 6) pa_nil))))) (pss_one (ps_ret pe_bl)) pss_nil)
        (pss_cons (ps_set (i := 1) sc_law.nd rfl (.inr rfl) (pe_f C__law_box hr (pa_cons (pv 0) (pa_cons pe_int pa_nil))))
        (pss_cons (ps_setLc (i := 11) rfl sc_law.nd rfl rfl (sw_true rfl rfl rfl (by decide +kernel)) (pi_range1 (by rfl) T.range (pa_cons pe_int pa_nil)) (blkOk_by (own := [("_law_k", 14)]) (N := ["_law_script", "_law_box_here", "_law_tree_here", "_law_book_here", "_law_plan", "_law_names_here", "_law_pairs", "_law_others", "_law_a", "_law_b", "_law_found", "_law_states", "_law_some_here", "_law_state_here", "_law_k"]) (sc := defScope (top 59)) (by decide +kernel)) (fun _ _ _ _ _ => (pg_name (i := 14) sc_law.nd rfl (.inl rfl))) (fun _ _ _ _ _ => pts_nil) (fun _ _ _ _ _ => (pe_f C__law_state hr (pa_cons (pv 1) (pa_cons (pe_ix (show IxR _ (rIxT K) from ix_tup) (pv 3) pe_int (fun _ _ => rfl)) pa_nil)))))
        (C8.pss_cut (ps_if (PW.pt (pw_and (pt_cmpR op_lt (pe_callB call_len_seq (by rfl) T.len (by decide +kernel) (pa_cons (pv 5) pa_nil)) pe_int (nomark _)) (pw_and1 (pt_cmpR op_eq (pe_f C__law_take hr (pa_cons (pv 1) (pa_cons pe_int pa_nil))) pe_int (nomark _))))) (pss_one (ps_set (i := 11) sc_law.nd rfl (.inl rfl) (pe_f C__law_all_states hr (pa_cons (pe_ix ix_tup (pv 3) pe_int (fun _ _ => rfl)) pa_nil)))) pss_nil)
        (pss_cons (ps_set (i := 12) sc_law.nd rfl (.inl rfl) (pe_f C__law_some hr (pa_cons (pv 1) (pa_cons (pv 6) (pa_cons pe_int pa_nil)))))
        (pss_cons (ps_for PassesOwn.never rfl (pi_list (pv 11)) (pg_name (i := 13) sc_law.nd rfl (.inl rfl)) (pss_one (ps_if (pt_not (pt_val (pe_f C__law_never hr (pa_cons (pv 4) (pa_cons (pv 13) (pa_cons (pv 12) pa_nil)))))) (pss_one (ps_ret pe_bl)) pss_nil)))
        (pss_cons (ps_set (i := 1) sc_law.nd rfl (.inr rfl) (pe_f C__law_box hr (pa_cons (pv 0) (pa_cons pe_int pa_nil))))
        (pss_cons (ps_for PassesOwn.never rfl (pi_list (pe_f C__law_some hr (pa_cons (pv 1) (pa_cons (pv 7) (pa_cons pe_int pa_nil))))) (pg_tup rfl (pgs_cons (pg_name (i := 8) sc_law.nd rfl (.inl rfl)) (pgs_cons (pg_name (i := 9) sc_law.nd rfl (.inl rfl)) pgs_nil))) (pss_one (ps_if (pt_not (pt_val (pe_f C__law_lost hr (pa_cons (pv 1) (pa_cons (pv 4) (pa_cons (pv 3) (pa_cons (pv 8) (pa_cons (pv 9) pa_nil)))))))) (pss_one (ps_ret pe_bl)) pss_nil)))
        (pss_one (ps_ret (pe_f C__law_is_pairs hr (pa_cons (pe_f C_safe_pairs hr (pa_cons (pv 4) pa_nil)) (pa_cons (pv 6) pa_nil)))))))))))))))))))))))), ?_⟩
    -- the tree
    refine ⟨_, rfl, a, 0, is, rfl, hS, fun H1 b1 sm1 nb1 bx1 => ?_⟩
    refine ⟨_, rfl, _, rfl, _, rfl, b1, rfl, bx1, fun n H2 n1 n12 bt2 bx2 => ?_⟩
    refine ⟨b1, n, rfl, bx2, n12, fun xs q H3 hlen nd nm bt3 bx3 nq hq => ?_⟩
    have qb : q ≠ b1 := fun e => by
      obtain ⟨r, s', t, z⟩ := bx2
      rw [e, z] at nq; cases nq
    refine ⟨b1, q, xs, rfl, bx3, hq, qb, by omega, by omega, fun t v H4 pmx tv bt4 bx4 => ?_⟩
    have sm4 : Same H H4 := kp_but sm1 nb1 ((bt2.trans bt3).trans bt4)
    have ndl : t.leaves.Nodup := pmx.nodup_iff.mpr nd
    have n12l : t.leaves.length ≤ 12 := by rw [pmx.length_eq]; omega
    have nmsl : ∀ x ∈ t.leaves, Nm x := fun x hx => nm x (pmx.mem_iff.mp hx)
    -- the book, the plan
    refine ⟨_, rfl, v, t, rfl, tv, ndl, n12l, fun ns bk H5 pmn so sm5 nbk hbk => ?_⟩
    have ok : TrOk t ns := ⟨ndl, n12l, nmsl, pmn⟩
    refine ⟨_, rfl, fun pl dx npl ndx dne => ?_⟩
    have smn : Same H5 (upd (upd H5 dx (.own pl)) pl (.ins C dx [])) := sNew (sNew (Same.refl H5) ndx) (by rw [upd_ne (Ne.symm dne)]; exact npl)
    refine ⟨pl, dx, v, t, rfl, upd_same, tv.mono (Tups.of (sm5.trans smn)), ndl, n12l, nmsl, fun ns2 H6 pmn2 so2 bt6 hpl => ⟨rfl, ?_⟩⟩
    have ens : ns2 = ns := sortedS_one (pmn2.trans pmn.symm) so2 so
    subst ens
    have sm56 : Same H5 H6 := fun a o e => bt6 _ _ (ne_of_none e npl) (smn _ _ e)
    have sm6 : Same H H6 := (sm4.trans sm5).trans sm56
    have hbk6 := hbk.same sm56
    obtain ⟨wd, bd, fl, lf, e1, e2, e3, e4⟩ := hbk6.got
    -- the names
    refine ⟨_, rfl, bk, _, _, _, rfl, rfl, SqT.of e1, atI_nat (j := 0) rfl, wd, _, t.leaves, rfl, .inl e2, by rw [wayK_keys, t.ways_names], by omega, fun ys nm' pmy soy nnm => ?_⟩
    have eys : ys = ns2 := sortedS_one (pmy.trans pmn.symm) soy so
    subst eys
    refine ⟨Nat.zero_le _, fun pr npr => ⟨Nat.zero_le _, fun ot notn => ?_⟩⟩
    have prot : pr ≠ ot := ne_of_none upd_same notn
    have nlen := ok.nlen
    have sm9 : Same H6 (upd (upd (upd H6 nm' (.lst (ys.map V.str))) pr (.lst [])) ot (.lst [])) := sNew (sNew (sNew (Same.refl H6) nnm) npr) notn
    have npr6 : H6 pr = none := (sNew (Same.refl H6) nnm).free npr
    have not6 : H6 ot = none := (sNew (sNew (Same.refl H6) nnm) npr).free notn
    have hnm9 : (upd (upd (upd H6 nm' (.lst (ys.map V.str))) pr (.lst [])) ot (.lst [])) nm' = some (.lst (ys.map V.str)) := sNew (sNew (Same.refl _) npr) notn _ _ upd_same
    have nmpr : nm' ≠ pr := ne_of_none upd_same npr
    have nmot : nm' ≠ ot := ne_of_none (by rw [upd_ne nmpr]; exact upd_same) notn
    -- the pairs
    let Lp (i : Nat) (H' : Hp) (zs os : List (Addr × Str × Str)) (L1 L2 : List (Str × Str)) : Prop := Same H6 H' ∧ H' nm' = some (.lst (ys.map V.str)) ∧ PairsAt H' pr zs ∧ PairsAt H' ot os ∧ zs.map (·.2) = L1 ∧ os.map (·.2) = L2
    refine ⟨_, rfl, nm', rfl, ⟨_, SqL.of hnm9⟩, ?_⟩
    refine for_list (K := K) (a := nm') (xs := ys.map V.str) (fun i σ H' => ∃ (zs os : List (Addr × Str × Str)) (v8 v9 : Option V), σ = [some (.ref a), some (.ref b1), some v, some (.ref bk), some (.ref pl), some (.ref nm'), some (.ref pr), some (.ref ot), v8, v9, none, none, none, none, none] ∧ Lp i H' zs os (pairsL (parts t) (ys.take i) ys) (pairsL (fun a b => !parts t a b) (ys.take i) ys))
      ⟨[], [], none, none, rfl, sm9, hnm9, ⟨by rw [upd_ne prot]; exact upd_same, fun z hz => nomatch hz⟩, ⟨upd_same, fun z hz => nomatch hz⟩, rfl, rfl⟩ (fun i σ H' _ ⟨_, _, _, _, _, _, h, _⟩ => SqL.of h) ?_ ?_
    · rintro i y σ H7 hi ⟨zs, os, v8, v9, rfl, s7, hn7, hz7, ho7, hm7, hk7⟩
      obtain ⟨x, hx, rfl⟩ := str_at hi
      have hxn : x ∈ ys := List.mem_of_getElem? hx
      refine ⟨_, rfl, nm', rfl, ⟨_, SqL.of hn7⟩, ?_⟩
      refine for_list (K := K) (a := nm') (xs := ys.map V.str) (fun j σ H' => ∃ (zs os : List (Addr × Str × Str)) (v9 : Option V), σ = [some (.ref a), some (.ref b1), some v, some (.ref bk), some (.ref pl), some (.ref nm'), some (.ref pr), some (.ref ot), some (.str x), v9, none, none, none, none, none] ∧
          Lp i H' zs os (pairsL (parts t) (ys.take i) ys ++ ((ys.take j).filter fun b => ltN x b && parts t x b).map fun b => (x, b)) (pairsL (fun a b => !parts t a b) (ys.take i) ys ++ ((ys.take j).filter fun b => ltN x b && !parts t x b).map fun b => (x, b)))
        ⟨zs, os, v9, rfl, s7, hn7, hz7, ho7, by rw [hm7]; simp, by rw [hk7]; simp⟩ (fun i σ H' _ ⟨_, _, _, _, _, h, _⟩ => SqL.of h) ?_ ?_
      · rintro j y σ H8 hj ⟨zs, os, v9, rfl, s8, hn8, hz8, ho8, hm8, hk8⟩
        obtain ⟨c, hc, rfl⟩ := str_at hj
        have hcn : c ∈ ys := List.mem_of_getElem? hc
        have et := take_snoc hc
        have zl := pairs_len nlen hm8
        have ol := pairs_len (q := fun a b => !parts t a b) nlen hk8
        refine ⟨_, rfl, _, rfl, _, _, rfl, rfl, _, rfl, ?_⟩
        show if ltN x c = true then _ else _
        refine ite2 (fun hlt => ?_) (fun hlt => ?_)
        · have ne := ltN_ne hlt
          have wx := ok.way_ne hxn hcn ne
          have wc := ok.way_ne hcn hxn (Ne.symm ne)
          have lx := ok.wlen (ok.mem.mp hxn)
          have lc := ok.wlen (ok.mem.mp hcn)
          refine ⟨_, rfl, _, rfl, _, rfl, bk, t, ys, x, c, rfl, hbk6.same s8, ndl, ok.mem.mp hxn, ok.mem.mp hcn, wx, wc, by omega, by omega, fun G hG => ⟨rfl, _, rfl, ?_⟩⟩
          have hdec : decide (V.str (enc G) = V.str "") = parts t x c := by
            have e0 : (V.str (enc G) = V.str "") ↔ (t.way x).getD 0 false ≠ (t.way c).getD 0 false := by
              rw [← enc_nil]
              exact ⟨fun h => hG.mp (enc_inj (V.str.inj h)), fun h => by rw [hG.mpr h]⟩
            unfold parts
            exact decide_eq_decide.mpr e0
          rw [hdec]
          cases hp : parts t x c with
          | true =>
            refine iteT ?_
            refine ⟨_, rfl, .inl ⟨rfl, _, SqL.of hz8.1⟩, _, rfl, _, rfl, (by show 2 ≤ sizeLine; decide), fun u nu => ?_⟩
            obtain ⟨g1, g2⟩ := hz8.push (x := x) (y := c) nu
            have hup : u ≠ pr := Ne.symm (ne_of_none hz8.1 nu)
            refine ⟨pr, _, _, rfl, rfl, g1, small_line' (by rw [List.length_map]; omega), zs ++ [(u, x, c)], os, _, rfl, sOwn (sNew s8 nu) npr6, by rw [upd_ne nmpr, upd_ne (ne_of_none hn8 nu)]; exact hn8, g2, ⟨?_, fun z hz => ?_⟩, ?_, ?_⟩
            · rw [upd_ne (Ne.symm prot), upd_ne (ne_of_none ho8.1 nu)]; exact ho8.1
            · have := ho8.2 z hz
              unfold PairAt at this ⊢
              rw [upd_ne (ne_of this hz8.1 (by intro z; cases z)), upd_ne (ne_of_none this nu)]; exact this
            · rw [List.map_append, et]; exact pairs_take (by rw [hlt, hp]; rfl) hm8
            · rw [et]; exact pairs_skip (q := fun a b => !parts t a b) (by rw [hlt, hp]; simp) hk8
          | false =>
            refine iteF ?_
            refine ⟨_, rfl, _, rfl, _, _, rfl, rfl, _, rfl, ?_⟩
            show if ltN x c = true then _ else _
            rw [hlt]
            refine iteT ?_
            refine ⟨_, rfl, .inl ⟨rfl, _, SqL.of ho8.1⟩, _, rfl, _, rfl, (by show 2 ≤ sizeLine; decide), fun u nu => ?_⟩
            obtain ⟨g1, g2⟩ := ho8.push (x := x) (y := c) nu
            refine ⟨ot, _, _, rfl, rfl, g1, small_line' (by rw [List.length_map]; omega), zs, os ++ [(u, x, c)], _, rfl, sOwn (sNew s8 nu) not6, by rw [upd_ne nmot, upd_ne (ne_of_none hn8 nu)]; exact hn8, ⟨?_, fun z hz => ?_⟩, g2, ?_, ?_⟩
            · rw [upd_ne prot, upd_ne (ne_of_none hz8.1 nu)]; exact hz8.1
            · have := hz8.2 z hz
              unfold PairAt at this ⊢
              rw [upd_ne (ne_of this ho8.1 (by intro z; cases z)), upd_ne (ne_of_none this nu)]; exact this
            · rw [et]; exact pairs_skip (by rw [hlt, hp]; simp) hm8
            · rw [List.map_append, et]; exact pairs_take (q := fun a b => !parts t a b) (by rw [hlt, hp]; rfl) hk8
        · have hlt' : ltN x c = false := by cases h : ltN x c <;> simp_all
          refine iteF ?_
          refine ⟨_, rfl, _, rfl, _, _, rfl, rfl, _, rfl, ?_⟩
          show if ltN x c = true then _ else _
          rw [hlt']
          refine iteF ⟨zs, os, _, rfl, s8, hn8, hz8, ho8, ?_, ?_⟩
          · rw [et]; exact pairs_skip (by rw [hlt']; simp) hm8
          · rw [et]; exact pairs_skip (q := fun a b => !parts t a b) (by rw [hlt']; simp) hk8
      · rintro σ H8 ⟨zs, os, v9, rfl, s8, hn8, hz8, ho8, hm8, hk8⟩
        refine ⟨zs, os, _, _, rfl, s8, hn8, hz8, ho8, ?_, ?_⟩
        · rw [hm8, List.length_map, List.take_length, take_snoc hx, pairsL_snoc]
        · rw [hk8, List.length_map, List.take_length, take_snoc hx, pairsL_snoc]
    · rintro σ HB ⟨zs, os, v8, v9, rfl, sB, hnB, hzB, hoB, hmB, hkB⟩
      rw [List.length_map, List.take_length] at hmB hkB
      have smB : Same H HB := sm6.trans sB
      have paB := hpl.same sB
      have bkB := hbk6.same sB
      have zl := pairs_all nlen hmB
      have ol := pairs_all (q := fun a b => !parts t a b) nlen hkB
      have lowOf : ∀ {x : Str}, x ∈ ys → Low x := fun h => (nmsl _ (ok.mem.mp h)).2.2
      have lowZ : ∀ {gz : List (Addr × Str × Str)}, gz.map (·.2) = pairsL (parts t) ys ys → ∀ z ∈ gz, Low z.2.1 ∧ Low z.2.2 := fun e z hz => by
        obtain ⟨h1, h2, _⟩ := pairs_mem e hz
        exact ⟨lowOf h1, lowOf h2⟩
      have lenZ : ∀ {gz : List (Addr × Str × Str)}, gz.map (·.2) = pairsL (parts t) ys ys → gz.length ≤ 200 := fun e => by have := pairs_all nlen e; omega
      -- safe_pairs once, and again
      refine ⟨_, rfl, pl, t, ys, rfl, paB, ok, fun fo fz H10 s10 nfo hfo hfm => ?_⟩
      refine ⟨_, rfl, _, rfl, fo, pr, fz, zs, rfl, hfo, hzB.same s10, hfm.trans hmB.symm, lenZ hfm, lowZ hfm, _, rfl, iteF ?_⟩
      refine ⟨_, rfl, .inl ⟨rfl, _, SqL.of hfo.1⟩, (by show 2 ≤ sizeLine; decide), fun u nu => ?_⟩
      refine ⟨fo, _, _, rfl, rfl, (by rw [upd_ne (ne_of_none hfo.1 nu)]; exact hfo.1), small_line' (by rw [List.length_map]; have := lenZ hfm; omega), ?_⟩
      have s11 : Same HB (upd (upd H10 u (.tup [.str "", .str ""])) fo (.lst ((fz.map fun z => V.ref z.1) ++ [.ref u]))) := sOwn (sNew s10 nu) nfo
      generalize (upd (upd H10 u (.tup [.str "", .str ""])) fo (.lst ((fz.map fun z => V.ref z.1) ++ [.ref u]))) = H11 at *
      refine ⟨_, rfl, pl, t, ys, rfl, paB.same s11, ok, fun fo2 fz2 H12 s12 nf2 hf2 hfm2 => ?_⟩
      have sB12 := s11.trans s12
      refine ⟨_, rfl, fo2, pr, fz2, zs, rfl, hf2, hzB.same sB12, hfm2.trans hmB.symm, lenZ hfm2, lowZ hfm2, _, rfl, iteF ?_⟩
      -- the second box, the states
      refine ⟨_, rfl, a, 1, is, rfl, seq_same (smB.trans sB12) hS, fun H13 b2 s13 nb2' bx13 => ?_⟩
      have nb2 : HB b2 = none := sB12.free nb2'
      have sB13 := sB12.trans s13
      have cn := ok.clen
      refine ⟨_, rfl, by decide, by decide, fun D nD => ?_⟩
      have Db2 : D ≠ b2 := fun e => by
        obtain ⟨r, s', t', z⟩ := bx13
        rw [e, z] at nD; cases nD
      have bxU : ∀ {H' : Hp} {o : HO}, Bx H' b2 → Bx (upd H' D o) b2 := fun bx' => by
        obtain ⟨r, s', t', z⟩ := bx'
        exact ⟨r, s', t', by rw [upd_ne (Ne.symm Db2)]; exact z⟩
      refine loop_it (walk_range (lo := 0) (n := 4)) (fun j H' => But b2 H13 H' ∧ Bx H' b2 ∧ ∃ sts : List Addr, sts.length = j ∧ H' D = some (.lst (sts.map V.ref)) ∧ ∀ st ∈ sts, ∃ bs : List Bool, bs.length = cellN t ys ∧ StAt H' st bs)
        ⟨(But.refl b2 H13).new nD, bxU bx13, [], rfl, upd_same, fun z hz => nomatch hz⟩ (fun _ _ _ _ => trivial) ?_ ?_
      · rintro j y H14 H15 hj ⟨bt14, bx14, sts, hl14, hD14, hs14⟩ ⟨rfl, rfl⟩
        obtain ⟨wd', bd', fl', lf', g1, _, _, _⟩ := (bkB.same (kp_but sB13 nb2 bt14)).got
        refine ⟨rfl, _, rfl, _, rfl, bk, _, _, _, rfl, rfl, SqT.of g1, atI_nat (j := 4) rfl, b2, cellN t ys, rfl, bx14, by omega, fun bs q' H16 hbs bt16 bx16 nq' hst => ?_⟩
        have hD16 := bt16 _ _ Db2 hD14
        have neD : ∀ {st : Addr} {bs : List Bool}, StAt H16 st bs → st ≠ D := fun h => ne_of h hD16 (by intro z; cases z)
        refine ⟨_, hD16, small_line' (by rw [List.length_map]; omega), (bt14.trans bt16).own nD, bxU bx16, sts ++ [q'], by rw [List.length_append, hl14]; rfl, by rw [upd_same, List.map_append]; rfl, fun st hst' => ?_⟩
        rcases List.mem_append.mp hst' with h | h
        · obtain ⟨bs', h1, h2⟩ := hs14 st h
          have h3 := h2.but bt16 bx14
          exact ⟨bs', h1, by unfold StAt; rw [upd_ne (neD h3)]; exact h3⟩
        · have : st = q' := by simpa using h
          subst this
          exact ⟨bs, hbs, by unfold StAt; rw [upd_ne (neD hst)]; exact hst⟩
      · rintro H14 ⟨bt14, bx14, sts, hl14, hD14, hs14⟩
        have sB14 := kp_but sB13 nb2 bt14
        -- all the states, of few
        refine ⟨fun σ' H' => ∃ sl : Addr, σ' = [some (.ref a), some (.ref b2), some v, some (.ref bk), some (.ref pl), some (.ref nm'), some (.ref pr), some (.ref ot), v8, v9, some (.ref fo), some (.ref sl), none, none, none] ∧ Same HB H' ∧ Bx H' b2 ∧ sl ≠ b2 ∧ StsAt H' (cellN t ys) sl, ?_, ?_⟩
        · have hn14 := sB14 _ _ hnB
          refine ⟨_, rfl, nm', _, rfl, .inl (SqL.of hn14), _, _, rfl, rfl, _, rfl, ite2 (fun hlt => ?_) (fun _ => iteF ?_)⟩
          · refine ⟨_, rfl, b2, 3, rfl, bx14, by decide, by decide, fun d H15 d0 d1 bt15 bx15 => ⟨rfl, _, rfl, ?_⟩⟩
            have sB15 := kp_but sB14 nb2 bt15
            refine ite2 (fun _ => ?_) (fun _ => ?_)
            · have hlt := of_decide_eq_true hlt
              rw [List.length_map] at hlt
              have c6 := few_cells ok (by omega)
              obtain ⟨wd', bd', fl', lf', g1, _, _, _⟩ := (bkB.same sB15).got
              refine ⟨_, rfl, bk, _, _, _, rfl, rfl, SqT.of g1, atI_nat (j := 4) rfl, cellN t ys, rfl, c6, fun ps ql H16 s16 nq16 hq16 hps => ?_⟩
              refine ⟨ql, rfl, sB15.trans s16, bx15.same s16, fun e => ?_, ps, hq16, hps⟩
              obtain ⟨r, s', t', z⟩ := bx15
              rw [e, z] at nq16; cases nq16
            · exact ⟨D, rfl, sB15, bx15, Db2, sts, bt15 _ _ Db2 hD14, fun st hst => by
                obtain ⟨bs', h1, h2⟩ := hs14 st hst
                exact ⟨bs', h1, h2.but bt15 bx14⟩⟩
          · exact ⟨D, rfl, sB14, bx14, Db2, sts, hD14, hs14⟩
        · rintro σ15 H15 ⟨sl, rfl, sB15, bx15, slb, sts', hsl, hsts⟩
          have prb2 : pr ≠ b2 := ne_of_none hzB.1 nb2
          refine ⟨_, rfl, _, rfl, b2, pr, 8, _, rfl, bx15, sB15 _ _ hzB.1, prb2, by rw [List.length_map]; omega, by decide, by decide, fun yx sm H16 hmem bt16 bx16 nsm hsm => ?_⟩
          have sB16 := kp_but sB15 nb2 bt16
          have hsl16 := bt16 _ _ slb hsl
          -- no pair loses
          refine ⟨_, rfl, sl, rfl, ⟨_, SqL.of hsl16⟩, ?_⟩
          refine for_list (K := K) (a := sl) (xs := sts'.map V.ref) (fun j σ H' => ∃ v13 : Option V, σ = [some (.ref a), some (.ref b2), some v, some (.ref bk), some (.ref pl), some (.ref nm'), some (.ref pr), some (.ref ot), v8, v9, some (.ref fo), some (.ref sl), some (.ref sm), v13, none] ∧ Same H16 H')
            ⟨none, rfl, Same.refl _⟩ (fun j σ H' _ ⟨_, _, s'⟩ => SqL.of (s' _ _ hsl16)) ?_ ?_
          · rintro j y σ H17 hj ⟨v13, rfl, s17⟩
            obtain ⟨st, hst, rfl⟩ : ∃ st, st ∈ sts' ∧ y = .ref st := by
              obtain ⟨st, h1, h2⟩ := List.mem_map.mp (List.mem_of_getElem? hj)
              exact ⟨st, h1, h2.symm⟩
            obtain ⟨bs, hbs, hsb⟩ := hsts st hst
            have sB17 := sB16.trans s17
            refine ⟨_, rfl, _, rfl, _, rfl, pl, st, sm, t, ys, bs, yx, rfl, paB.same sB17, ok, (hsb.but bt16 bx15).same s17, hbs, s17 _ _ hsm, fun y hy => ?_, fun H18 s18 => ⟨_, rfl, iteF ⟨_, rfl, s17.trans s18⟩⟩⟩
            obtain ⟨z, hz, rfl⟩ := List.mem_map.mp (hmem y hy)
            obtain ⟨m1, m2, m3, m4⟩ := pairs_mem hmB hz
            exact ⟨z.1, z.2.1, z.2.2, rfl, sB17 _ _ (hzB.2 z hz), m1, m2, m3, m4⟩
          · rintro σ H17 ⟨v13, rfl, s17⟩
            have sB17 := sB16.trans s17
            -- the third box, the others
            refine ⟨_, rfl, a, 2, is, rfl, seq_same (smB.trans sB17) hS, fun H18 b3 s18 nb3' bx18 => ?_⟩
            have nb3 : HB b3 = none := sB17.free nb3'
            have sB18 := sB17.trans s18
            refine ⟨_, rfl, _, rfl, b3, ot, 20, _, rfl, bx18, sB18 _ _ hoB.1, ne_of_none hoB.1 nb3, by rw [List.length_map]; omega, by decide, by decide, fun zx sm3 H19 hmem3 bt19 bx19 nsm3 hsm3 => ?_⟩
            have sm3b : sm3 ≠ b3 := fun e => by
              obtain ⟨r, s', t', z⟩ := bx18
              rw [e, z] at nsm3; cases nsm3
            have sB19 := kp_but sB18 nb3 bt19
            refine ⟨sm3, rfl, ⟨_, SqL.of hsm3⟩, ?_⟩
            refine for_list (K := K) (a := sm3) (xs := zx) (fun j σ H' => ∃ v8 v9 v13 : Option V, σ = [some (.ref a), some (.ref b3), some v, some (.ref bk), some (.ref pl), some (.ref nm'), some (.ref pr), some (.ref ot), v8, v9, some (.ref fo), some (.ref sl), some (.ref sm), v13, none] ∧ But b3 H19 H' ∧ Bx H' b3)
              ⟨v8, v9, v13, rfl, But.refl _ _, bx19⟩ (fun j σ H' _ ⟨_, _, _, _, b', _⟩ => SqL.of (b' _ _ sm3b hsm3)) ?_ ?_
            · rintro j y σ H20 hj ⟨v8, v9, v13, rfl, bt20, bx20⟩
              obtain ⟨z, hz, rfl⟩ := List.mem_map.mp (hmem3 y (List.mem_of_getElem? hj))
              obtain ⟨m1, m2, m3, m4⟩ := pairs_mem (q := fun a b => !parts t a b) hkB hz
              have m4 : parts t z.2.1 z.2.2 = false := by simpa using m4
              have sB20 := kp_but sB19 nb3 bt20
              refine ⟨z.1, _, rfl, SqT.of (sB20 _ _ (hoB.2 z hz)), rfl, _, _, rfl, _, _, rfl, rfl, ?_⟩
              refine ⟨_, rfl, _, rfl, _, rfl, _, rfl, _, rfl, b3, pl, bk, t, ys, z.2.1, z.2.2, rfl, bx20, ⟨HB, sB20, nb3, paB, bkB⟩, ok, m1, m2, m3, m4, fun H21 bt21 bx21 => ⟨_, rfl, iteF ⟨_, _, _, rfl, bt20.trans bt21, bx21⟩⟩⟩
            · rintro σ H20 ⟨v8, v9, v13, rfl, bt20, bx20⟩
              have sB20 := kp_but sB19 nb3 bt20
              refine ⟨_, rfl, pl, t, ys, rfl, paB.same sB20, ok, fun fo3 fz3 H21 s21 nf3 hf3 hfm3 => ?_⟩
              exact ⟨_, rfl, fo3, pr, fz3, zs, rfl, hf3, hzB.same (sB20.trans s21), hfm3.trans hmB.symm, lenZ hfm3, lowZ hfm3, k H21⟩
end
end Fk

set_option Elab.async false
set_option linter.all false
set_option maxRecDepth 100000
set_option maxHeartbeats 0
namespace FkH
open PySem PySem.Spec PyProof.Rows L2
/-! ### the text by places -/
def top (i : Nat) : Stmt := PySem.Challenge.pw_forkflags_k34_whole_safe_pairs.main.body.getD i (.Pass ⟨0, 0, 0, 0⟩)
def met (i j : Nat) : Stmt := inClass (top i) j
def dF (i : Nat) (x : Str) : He.DefD := ⟨(x, none), x, x, defArgs (top i), defBody (top i), defScope (top i), [], []⟩
def dM (i j : Nat) (m q : Str) : He.DefD := ⟨("ForkPlan", some m), m, q, defArgs (met i j), defBody (met i j), defScope (met i j), [], []⟩
def fn : List He.DefD := [dF 11 "overlapped", dF 12 "loses", dF 13 "safe_pairs", dF 17 "is_name", dF 20 "is_tree", dF 21 "check_tree", dF 22 "subtrees_of", dF 23 "ways_of", dF 24 "forks_of", dF 26 "format_tree", dF 27 "_spelled", dF 29 "is_below", dF 32 "flags_by_fork",
  dF 36 "_law_mixed", dF 37 "_law_box", dF 38 "_law_take", dF 39 "_law_word", dF 40 "_law_names", dF 41 "_law_tree", dF 42 "_law_many", dF 43 "_law_ways", dF 44 "_law_book", dF 45 "_law_side", dF 46 "_law_teller", dF 48 "_law_after", dF 49 "_law_state",
  dF 52 "_law_asked", dF 53 "_law_parting", dF 54 "_law_all_states", dF 55 "_law_never", dF 56 "_law_lost", dF 57 "_law_some", dF 58 "_law_is_pairs", dF 59 "law",
  dM 30 4 "check_writer" "Plan.check_writer", dM 30 5 "check_state" "Plan.check_state", dM 30 7 "cells_of" "Plan.cells_of", dM 30 8 "turned" "Plan.turned",
  dM 33 4 "_parity" "ForkPlan._parity", dM 33 5 "_leaf_from" "ForkPlan._leaf_from", dM 33 9 "told" "ForkPlan.told", dM 33 11 "wrong_forks" "ForkPlan.wrong_forks", dM 33 12 "turns" "ForkPlan.turns",
  ⟨("Plan", some "__init__"), "__init__", "Plan.__init__", defArgs (met 30 0), defBody (met 30 0), defScope (met 30 0), [], []⟩]
def globs1 : List Str := ["overlapped", "loses", "safe_pairs", "is_name", "is_tree", "check_tree", "subtrees_of", "ways_of", "forks_of", "format_tree", "_spelled", "is_below", "flags_by_fork", "ForkPlan", "_law_mixed", "_law_box", "_law_take", "_law_word", "_law_names", "_law_tree", "_law_many", "_law_ways"]
def globs2 : List Str := ["_law_book", "_law_side", "_law_teller", "_law_after", "_law_state", "_law_asked", "_law_parting", "_law_all_states", "_law_never", "_law_lost", "_law_some", "_law_is_pairs", "law"]
def globs : List Str := globs1 ++ globs2
def frees : List Str := ["isinstance", "len", "sorted", "list", "tuple", "int", "str", "bool", "sum", "range", "zip", "enumerate", "reversed", "max", "min", "super"]
def attrs : List Str := ["names", "cells", "sizes", "tree", "ways", "_flags", "_leaves", "_written"]
def meths : List Str := ["check_writer", "check_state", "cells_of", "turned", "_parity", "_leaf_from", "told", "wrong_forks", "turns"]
def fa : List He.Fa := globs.map .glo ++ (frees.map .free ++ ([.int "_MOST_LETTERS" 8, .int "LEAF_LIMIT" 12, .str "_LETTERS" "abcdefghijklmnopqrstuvwxyz", .cls "ForkPlan", .mkr "ForkPlan", .glo "Plan"] ++ (attrs.map (.noat "ForkPlan") ++ meths.map (.meth "ForkPlan"))))
/-! ### ForkPlan.__init__: a def with __class__ in its closure, and super() in it -/
def sInit : Stmt := met 33 0
abbrev IniV : Type := Option (Str × Str × Arguments × FuncBody × Scope × Addr × Value × Addr)
def iniA (K : PySem.W.Frag) : Addr := He.ma K (He.ga K "ForkPlan") "__init__"
def iniObs (K : PySem.W.Frag) : IniV := match K.lookup (iniA K) with
  | some ⟨_, _, .func fd, _⟩ => some (fd.name, fd.qualname, fd.params, fd.body, fd.scope, fd.globals, fd.defaults, fd.builtins)
  | _ => none
def iniVal : IniV := some ("__init__", "ForkPlan.__init__", defArgs sInit, .stmts (defBody sInit), defScope sInit, mainGlobals, .none, builtinsNs)
/-- the closure: __class__ alone, its cell holds the class; the code's file is the text's; the frame's super finds Plan.__init__ -/
def iniOk (file : Str) (K : PySem.W.Frag) : Bool := (match K.lookup (iniA K) with
  | some ⟨_, _, .func fd, _⟩ => (match fd.closure with
    | [(n, cc)] => decide (n = "__class__") && ((match K.lookup cc with
      | some ⟨_, _, .cell (some (.ref D)), _⟩ => decide (D = He.ga K "ForkPlan")
      | _ => false) && (PySem.W.codeIn K fd.code "ForkPlan.__init__" && (match fd.code with
        | .ref cda => (match K.lookup cda with
          | some ⟨_, _, .fields vs, _⟩ => (match (vs[2]? : Option Value) with
            | some (.str f _) => decide (f = file)
            | _ => false)
          | _ => false)
        | _ => false)))
    | _ => false)
  | _ => false) && (decide (PySem.W.mroIn K (He.ga K "ForkPlan") (.ref (He.ga K "ForkPlan")) = some true) && (decide (PySem.W.ks_superIn K (He.ga K "ForkPlan") (He.ga K "ForkPlan") "__init__" = some (some (.ref (He.ma K (He.ga K "Plan") "__init__")))) &&
    (decide (PySem.W.typeIn K (.ref (He.ma K (He.ga K "Plan") "__init__")) = some (.type "function")) && (decide (PySem.W.nsIn K cStatics "thirdparty.any" = some none) && (PySem.W.clsIn K (He.ga K "ForkPlan")).isSome))))
def file : Str := PySem.Challenge.pw_forkflags_k34_whole_safe_pairs.main.file
/-! ### the Hook -/
def asX (g : Addr → Option Obj) (n : Nat) : List Addr := cStatics :: He.asD g n
abbrev AlX : Type := He.AlD × Bool × IniV
def obsX (K : PySem.W.Frag) : AlX := (He.obsD fa fn K, iniOk file K, iniObs K)
def valX : AlX := (He.valD fn, true, iniVal)
def SaysX (K : PySem.W.Frag) : Prop := obsX K = valX
def obsXG (n : Nat) (g : Addr → Option Obj) : AlX := obsX (He.frG g (asX g n))
def hookX (n : Nat) : PySem.W.Hook where
  α := AlX
  obs := fun s => obsXG n s.heap.get?
  val := fun _ => valX
  says := fun _ h => ∃ K : PySem.W.Frag, K.In h ∧ SaysX K
  of := fun _ _ e => ⟨_, He.frG_in, e⟩
  keeps := fun _ _ _ ⟨part, there, told⟩ stay => ⟨part, PySem.W.Frag.In.keeps there stay, told⟩
theorem obsXG_eq {n : Nat} {g : Addr → Option Obj} {s : Shared} (h : ∀ a, g a = s.heap.get? a) : obsXG n g = (hookX n).obs s := by
  have eg : g = s.heap.get? := funext h
  rw [eg] <;> rfl
abbrev R : PySem.W.OpenRow := PySem.W.OpenLaw.row PySem.Challenge.rw_forkflags_k34_whole_safe_pairs
abbrev qv : Program := PySem.W.view R.prog [59]
abbrev hk : PySem.W.Hook := hookX 5
def ob (s : PySem.W.SharedT) : AlX := obsXG 5 (HandSHeadRun.getT s)
theorem ob_eq (s : PySem.W.SharedT) : ob s = hk.obs s.abs := obsXG_eq (HandSHeadRun.getT_eq s)
def loose1 : List PySem.Str := ["_wall", "_shown", "ForkError", "InvalidTree", "UnknownWriter", "DuplicateWriter", "UnknownFork", "InvalidState", "TooManyTurns", "overlapped", "loses", "safe_pairs", "_LETTERS", "_MOST_LETTERS", "is_name", "LEAF_LIMIT", "is_tree", "check_tree", "subtrees_of", "ways_of", "forks_of", "format_tree", "_spelled", "is_below", "Plan", "flags_by_fork", "ForkPlan"]
def loose2 : List PySem.Str := ["_law_is_integer", "_law_mixed", "_law_box", "_law_take", "_law_word", "_law_names", "_law_tree", "_law_many", "_law_ways", "_law_book", "_law_side", "_law_teller", "_law_needs", "_law_after", "_law_state", "_law_is_state", "_law_bad_state", "_law_asked", "_law_parting", "_law_all_states", "_law_never", "_law_lost", "_law_some", "_law_is_pairs"]
def loose : List PySem.Str := loose1 ++ loose2
theorem run (w : World) : HandSHeadRun.RunEq R qv hk ob 20000 loose w := by
  intro os
  kernel_rfl
end FkH

set_option Elab.async false
set_option linter.all false
set_option maxRecDepth 100000
set_option maxHeartbeats 8000000
namespace Fk
open PySem PySem.Spec PyProof.Rows L2
/-! ### what the head tells of ForkPlan.__init__ -/
theorem ini_of {P : Program} {K : PySem.W.Frag} {mg : Str → Option Value} (c1 : FkH.iniOk FkH.file K = true) (c2 : FkH.iniObs K = FkH.iniVal) (hf : (P.main.file == FkH.file) = true) (tp : (P.main.scope.names.lookup ("super" : Str)).isSome = false) (hm : mg "super" = none)
    (fn : PySem.W.fnIn K (He.ma K (He.ga K "Plan") "__init__") = true) : ∃ fd cc, IniS P K mg (He.ga K "ForkPlan") (He.ma K (He.ga K "ForkPlan") "__init__") (He.ma K (He.ga K "Plan") "__init__") cc fd := by
  unfold FkH.iniObs at c2
  unfold FkH.iniOk at c1
  cases q : K.lookup (FkH.iniA K) with
  | none => rw [q] at c2; cases c2
  | some o =>
    obtain ⟨oc, od, dt, osl⟩ := o
    rw [q] at c1 c2
    cases dt with
    | func fd =>
      obtain ⟨n1, n2, n3, n4, n5, n6, n7, n8, _, _, _, _, n13, _, n15⟩ := fd
      have e2 : (some (n1, n2, n3, n4, n5, n6, n8, n15) : FkH.IniV) = some (("__init__" : Str), ("ForkPlan.__init__" : Str), defArgs FkH.sInit, FuncBody.stmts (defBody FkH.sInit), defScope FkH.sInit, mainGlobals, Value.none, builtinsNs) := c2
      simp only [Option.some.injEq, Prod.mk.injEq] at e2
      obtain ⟨g1, g2, g3, g4, g5, g6, g7, g8⟩ := e2
      subst g1 g2 g3 g4 g5 g6 g7 g8
      obtain ⟨a1, a2⟩ := He.ba c1
      obtain ⟨b1, a2⟩ := He.ba a2
      obtain ⟨b2, a2⟩ := He.ba a2
      obtain ⟨b3, a2⟩ := He.ba a2
      obtain ⟨b4, b5⟩ := He.ba a2
      cases n7 with
      | nil => cases a1
      | cons p r =>
        obtain ⟨n, cc⟩ := p
        cases r with
        | cons _ _ => cases a1
        | nil =>
          obtain ⟨d1, a1⟩ := He.ba a1
          obtain ⟨d2, a1⟩ := He.ba a1
          obtain ⟨d3, d4⟩ := He.ba a1
          have en : n = "__class__" := of_decide_eq_true d1
          subst en
          have hcell : ∃ ob, K.lookup cc = some ob ∧ ob.data = .cell (some (.ref (He.ga K "ForkPlan"))) := by
            cases q2 : K.lookup cc with
            | none => rw [q2] at d2; cases d2
            | some ob =>
              obtain ⟨o1, o2, o3, o4⟩ := ob
              rw [q2] at d2
              cases o3 with
              | cell v =>
                cases v with
                | none => cases d2
                | some v =>
                  cases v with
                  | ref D =>
                    have : D = He.ga K "ForkPlan" := of_decide_eq_true d2
                    exact ⟨_, rfl, by rw [this]⟩
                  | _ => cases d2
              | _ => cases d2
          have hcode : ∃ cda oc vs fl tf, n13 = Value.ref cda ∧ K.lookup cda = some oc ∧ oc.data = .fields vs ∧ vs[2]? = some (.str fl tf) ∧ (P.main.file == fl) = true := by
            cases n13 with
            | ref cda =>
              have d4 : (match K.lookup cda with
                | some ⟨_, _, .fields vs, _⟩ => (match (vs[2]? : Option Value) with
                  | some (.str f _) => decide (f = FkH.file)
                  | _ => false)
                | _ => false) = true := d4
              cases q3 : K.lookup cda with
              | none => rw [q3] at d4; cases d4
              | some ob =>
                obtain ⟨o1, o2, o3, o4⟩ := ob
                rw [q3] at d4
                cases o3 with
                | fields vs =>
                  have d4 : (match (vs[2]? : Option Value) with
                    | some (.str f _) => decide (f = FkH.file)
                    | _ => false) = true := d4
                  cases q4 : vs[2]? with
                  | none => rw [q4] at d4; cases d4
                  | some x =>
                    rw [q4] at d4
                    cases x with
                    | str fl tf =>
                      have : fl = FkH.file := of_decide_eq_true d4
                      exact ⟨cda, _, vs, fl, tf, rfl, q3, rfl, q4, by rw [this]; exact hf⟩
                    | _ => cases d4
                | _ => cases d4
            | _ => cases d4
          refine ⟨_, cc, ⟨⟨oc, od, osl, q⟩, rfl, rfl, rfl, rfl, rfl, rfl, rfl, rfl, d3, hcell⟩, hcode, tp, Option.isSome_iff_exists.mp b5, of_decide_eq_true b1, of_decide_eq_true b2, of_decide_eq_true b3, fn, of_decide_eq_true b4, hm⟩
    | _ => cases c2
/-! ### the law's promise, from the head's facts -/
theorem facts {P : Program} {w : World} {K : PySem.W.Frag} {h : Heap} {mg : Str → Option Value} {f : Addr} (X : K.In h) (G : h.Ns mainGlobals mg) (hfa : mg ("law" : Str) = some (.ref f)) (c : FkH.SaysX K) (hf : (P.main.file == FkH.file) = true) (tp : (P.main.scope.names.lookup ("super" : Str)).isSome = false) :
    ∃ fd : FuncData, (∀ (s : Shared) (v : Value), BindsTo s fd ⟨[v], []⟩ [("_law_script", v)]) ∧ ∀ base : Heap, K.In base → base.Ns mainGlobals mg → FnOk P w K mg base CX0 16 f fd ["_law_script"] (spLaw K) := by
  have c1 : He.SaysD FkH.fa FkH.fn K := congrArg (fun z : FkH.AlX => z.1) c
  have c2 : FkH.iniOk FkH.file K = true := congrArg (fun z : FkH.AlX => z.2.1) c
  have c3 : FkH.iniObs K = FkH.iniVal := congrArg (fun z : FkH.AlX => z.2.2) c
  obtain ⟨fd0, F0⟩ := c1.def_ 0 (d := FkH.dF 11 "overlapped") rfl
  obtain ⟨fd1, F1⟩ := c1.def_ 1 (d := FkH.dF 12 "loses") rfl
  obtain ⟨fd2, F2⟩ := c1.def_ 2 (d := FkH.dF 13 "safe_pairs") rfl
  obtain ⟨fd3, F3⟩ := c1.def_ 3 (d := FkH.dF 17 "is_name") rfl
  obtain ⟨fd4, F4⟩ := c1.def_ 4 (d := FkH.dF 20 "is_tree") rfl
  obtain ⟨fd5, F5⟩ := c1.def_ 5 (d := FkH.dF 21 "check_tree") rfl
  obtain ⟨fd6, F6⟩ := c1.def_ 6 (d := FkH.dF 22 "subtrees_of") rfl
  obtain ⟨fd7, F7⟩ := c1.def_ 7 (d := FkH.dF 23 "ways_of") rfl
  obtain ⟨fd8, F8⟩ := c1.def_ 8 (d := FkH.dF 24 "forks_of") rfl
  obtain ⟨fd9, F9⟩ := c1.def_ 9 (d := FkH.dF 26 "format_tree") rfl
  obtain ⟨fd10, F10⟩ := c1.def_ 10 (d := FkH.dF 27 "_spelled") rfl
  obtain ⟨fd11, F11⟩ := c1.def_ 11 (d := FkH.dF 29 "is_below") rfl
  obtain ⟨fd12, F12⟩ := c1.def_ 12 (d := FkH.dF 32 "flags_by_fork") rfl
  obtain ⟨fd13, F13⟩ := c1.def_ 13 (d := FkH.dF 36 "_law_mixed") rfl
  obtain ⟨fd14, F14⟩ := c1.def_ 14 (d := FkH.dF 37 "_law_box") rfl
  obtain ⟨fd15, F15⟩ := c1.def_ 15 (d := FkH.dF 38 "_law_take") rfl
  obtain ⟨fd16, F16⟩ := c1.def_ 16 (d := FkH.dF 39 "_law_word") rfl
  obtain ⟨fd17, F17⟩ := c1.def_ 17 (d := FkH.dF 40 "_law_names") rfl
  obtain ⟨fd18, F18⟩ := c1.def_ 18 (d := FkH.dF 41 "_law_tree") rfl
  obtain ⟨fd19, F19⟩ := c1.def_ 19 (d := FkH.dF 42 "_law_many") rfl
  obtain ⟨fd20, F20⟩ := c1.def_ 20 (d := FkH.dF 43 "_law_ways") rfl
  obtain ⟨fd21, F21⟩ := c1.def_ 21 (d := FkH.dF 44 "_law_book") rfl
  obtain ⟨fd22, F22⟩ := c1.def_ 22 (d := FkH.dF 45 "_law_side") rfl
  obtain ⟨fd23, F23⟩ := c1.def_ 23 (d := FkH.dF 46 "_law_teller") rfl
  obtain ⟨fd24, F24⟩ := c1.def_ 24 (d := FkH.dF 48 "_law_after") rfl
  obtain ⟨fd25, F25⟩ := c1.def_ 25 (d := FkH.dF 49 "_law_state") rfl
  obtain ⟨fd26, F26⟩ := c1.def_ 26 (d := FkH.dF 52 "_law_asked") rfl
  obtain ⟨fd27, F27⟩ := c1.def_ 27 (d := FkH.dF 53 "_law_parting") rfl
  obtain ⟨fd28, F28⟩ := c1.def_ 28 (d := FkH.dF 54 "_law_all_states") rfl
  obtain ⟨fd29, F29⟩ := c1.def_ 29 (d := FkH.dF 55 "_law_never") rfl
  obtain ⟨fd30, F30⟩ := c1.def_ 30 (d := FkH.dF 56 "_law_lost") rfl
  obtain ⟨fd31, F31⟩ := c1.def_ 31 (d := FkH.dF 57 "_law_some") rfl
  obtain ⟨fd32, F32⟩ := c1.def_ 32 (d := FkH.dF 58 "_law_is_pairs") rfl
  obtain ⟨fd33, F33⟩ := c1.def_ 33 (d := FkH.dF 59 "law") rfl
  obtain ⟨fd34, F34⟩ := c1.def_ 34 (d := FkH.dM 30 4 "check_writer" "Plan.check_writer") rfl
  obtain ⟨fd35, F35⟩ := c1.def_ 35 (d := FkH.dM 30 5 "check_state" "Plan.check_state") rfl
  obtain ⟨fd36, F36⟩ := c1.def_ 36 (d := FkH.dM 30 7 "cells_of" "Plan.cells_of") rfl
  obtain ⟨fd37, F37⟩ := c1.def_ 37 (d := FkH.dM 30 8 "turned" "Plan.turned") rfl
  obtain ⟨fd38, F38⟩ := c1.def_ 38 (d := FkH.dM 33 4 "_parity" "ForkPlan._parity") rfl
  obtain ⟨fd39, F39⟩ := c1.def_ 39 (d := FkH.dM 33 5 "_leaf_from" "ForkPlan._leaf_from") rfl
  obtain ⟨fd40, F40⟩ := c1.def_ 40 (d := FkH.dM 33 9 "told" "ForkPlan.told") rfl
  obtain ⟨fd41, F41⟩ := c1.def_ 41 (d := FkH.dM 33 11 "wrong_forks" "ForkPlan.wrong_forks") rfl
  obtain ⟨fd42, F42⟩ := c1.def_ 42 (d := FkH.dM 33 12 "turns" "ForkPlan.turns") rfl
  obtain ⟨fdP, FP⟩ := c1.def_ 43 (d := ⟨("Plan", some "__init__"), "__init__", "Plan.__init__", defArgs (FkH.met 30 0), defBody (FkH.met 30 0), defScope (FkH.met 30 0), [], []⟩) rfl
  have T : Free mg := ⟨He.free_ok X G (c1.fact 35 (f := .free "isinstance") rfl), He.free_ok X G (c1.fact 36 (f := .free "len") rfl), He.free_ok X G (c1.fact 37 (f := .free "sorted") rfl), He.free_ok X G (c1.fact 38 (f := .free "list") rfl), He.free_ok X G (c1.fact 39 (f := .free "tuple") rfl), He.free_ok X G (c1.fact 40 (f := .free "int") rfl), He.free_ok X G (c1.fact 41 (f := .free "str") rfl), He.free_ok X G (c1.fact 42 (f := .free "bool") rfl), He.free_ok X G (c1.fact 43 (f := .free "sum") rfl), He.free_ok X G (c1.fact 44 (f := .free "range") rfl), He.free_ok X G (c1.fact 45 (f := .free "zip") rfl), He.free_ok X G (c1.fact 46 (f := .free "enumerate") rfl), He.free_ok X G (c1.fact 47 (f := .free "reversed") rfl), He.free_ok X G (c1.fact 48 (f := .free "max") rfl), He.free_ok X G (c1.fact 49 (f := .free "min") rfl), He.free_ok X G (c1.fact 50 (f := .free "super") rfl)⟩
  have Z : Cst mg := ⟨He.str_ok X G (c1.fact 53 (f := .str "_LETTERS" "abcdefghijklmnopqrstuvwxyz") rfl), He.int_ok X G (c1.fact 51 (f := .int "_MOST_LETTERS" 8) rfl), He.int_ok X G (c1.fact 52 (f := .int "LEAF_LIMIT" 12) rfl)⟩
  have PC : PCls K (He.ga K "ForkPlan") := ⟨He.cls_ok (c1.fact 54 (f := .cls "ForkPlan") rfl), He.noat_ok (c1.fact 57 (f := .noat "ForkPlan" "names") rfl), He.noat_ok (c1.fact 58 (f := .noat "ForkPlan" "cells") rfl), He.noat_ok (c1.fact 59 (f := .noat "ForkPlan" "sizes") rfl), He.noat_ok (c1.fact 60 (f := .noat "ForkPlan" "tree") rfl), He.noat_ok (c1.fact 61 (f := .noat "ForkPlan" "ways") rfl), He.noat_ok (c1.fact 62 (f := .noat "ForkPlan" "_flags") rfl), He.noat_ok (c1.fact 63 (f := .noat "ForkPlan" "_leaves") rfl), He.noat_ok (c1.fact 64 (f := .noat "ForkPlan" "_written") rfl)⟩
  have MK : Mk K (He.ga K "ForkPlan") (He.ma K (He.ga K "ForkPlan") "__init__") := He.mkr_ok (c1.fact 55 (f := .mkr "ForkPlan") rfl)
  have hfn : PySem.W.fnIn K (He.ma K (He.ga K "Plan") "__init__") = true := by
    obtain ⟨oc, od, dV, kV, doc, pm, an, cdv, ct, osl, _, lk, _⟩ := FP.ex
    have lk : K.lookup (He.ma K (He.ga K "Plan") "__init__") = some ⟨oc, od, .func fdP, osl⟩ := lk
    unfold PySem.W.fnIn
    rw [lk]
  obtain ⟨fdI, cc, D⟩ := ini_of (P := P) (mg := mg) c2 c3 hf tp T.super hfn
  have e := hfa.symm.trans (He.glo_ok X G (c1.fact 34 (f := .glo "law") rfl))
  cases e
  have b := FunD.bindsA (ps := ["_law_script"]) F33 fun _ _ _ _ _ _ us hl => match us, hl with | [_], _ => rfl
  refine ⟨_, fun s v => b s [v] rfl, fun base _ _ => ?_⟩
  have C_mixed := ok_mixed (P := P) (w := w) (base := base) T F13 (He.glo_ok X G (c1.fact 14 (f := .glo "_law_mixed") rfl))
  have C_box := ok_box (P := P) (w := w) (base := base) T F14 (He.glo_ok X G (c1.fact 15 (f := .glo "_law_box") rfl))
  have C_take := ok_take (P := P) (w := w) (base := base) T C_mixed F15 (He.glo_ok X G (c1.fact 16 (f := .glo "_law_take") rfl))
  have C_word := ok_word (P := P) (w := w) (base := base) T C_take F16 (He.glo_ok X G (c1.fact 17 (f := .glo "_law_word") rfl))
  have C_many := ok_many (P := P) (w := w) (base := base) C_take F19 (He.glo_ok X G (c1.fact 20 (f := .glo "_law_many") rfl))
  have C_names := ok_names (P := P) (w := w) (base := base) T C_take C_word F17 (He.glo_ok X G (c1.fact 18 (f := .glo "_law_names") rfl))
  have C_tree := ok_tree (P := P) (w := w) (base := base) T C_take F18 (He.glo_ok X G (c1.fact 19 (f := .glo "_law_tree") rfl))
  have C_lways := ok_ways (P := P) (w := w) (base := base) T F20 (He.glo_ok X G (c1.fact 21 (f := .glo "_law_ways") rfl)) 12
  have C_book := ok_book (P := P) (w := w) (base := base) T C_lways F21 (He.glo_ok X G (c1.fact 22 (f := .glo "_law_book") rfl))
  have C_side := ok_side (P := P) (w := w) (base := base) T F22 (He.glo_ok X G (c1.fact 23 (f := .glo "_law_side") rfl))
  have C_teller := ok_teller (P := P) (w := w) (base := base) T C_side F23 (He.glo_ok X G (c1.fact 24 (f := .glo "_law_teller") rfl))
  have C_after := ok_after (P := P) (w := w) (base := base) T F24 (He.glo_ok X G (c1.fact 25 (f := .glo "_law_after") rfl))
  have C_state := ok_state (P := P) (w := w) (base := base) T C_take F25 (He.glo_ok X G (c1.fact 26 (f := .glo "_law_state") rfl))
  have C_parting := ok_parting (P := P) (w := w) (base := base) T F27 (He.glo_ok X G (c1.fact 28 (f := .glo "_law_parting") rfl))
  have C_all := ok_all (P := P) (w := w) (base := base) T F28 (He.glo_ok X G (c1.fact 29 (f := .glo "_law_all_states") rfl))
  have C_some := ok_some (P := P) (w := w) (base := base) T C_take F31 (He.glo_ok X G (c1.fact 32 (f := .glo "_law_some") rfl))
  have C_isp := ok_is_pairs (P := P) (w := w) (base := base) T F32 (He.glo_ok X G (c1.fact 33 (f := .glo "_law_is_pairs") rfl))
  have C_isname := ok_is_name (P := P) (w := w) (base := base) T Z F3 (He.glo_ok X G (c1.fact 3 (f := .glo "is_name") rfl))
  have C_below := ok_is_below (P := P) (w := w) (base := base) T F11 (He.glo_ok X G (c1.fact 11 (f := .glo "is_below") rfl))
  have C_istree := ok_is_tree (P := P) (w := w) (base := base) T Z C_isname F4 (He.glo_ok X G (c1.fact 4 (f := .glo "is_tree") rfl))
  have C_check := ok_check_tree (P := P) (w := w) (base := base) C_istree F5 (He.glo_ok X G (c1.fact 5 (f := .glo "check_tree") rfl))
  have C_spelled := ok_spelled (P := P) (w := w) (base := base) T F10 (He.glo_ok X G (c1.fact 10 (f := .glo "_spelled") rfl)) 12
  have C_format := ok_format (P := P) (w := w) (base := base) C_check C_spelled F9 (He.glo_ok X G (c1.fact 9 (f := .glo "format_tree") rfl))
  have C_subs := ok_subtrees (P := P) (w := w) (base := base) T F6 (He.glo_ok X G (c1.fact 6 (f := .glo "subtrees_of") rfl))
  have C_waysof := ok_ways_of (P := P) (w := w) (base := base) T C_check C_subs F7 (He.glo_ok X G (c1.fact 7 (f := .glo "ways_of") rfl))
  have C_forksof := ok_forks_of (P := P) (w := w) (base := base) T C_check C_subs F8 (He.glo_ok X G (c1.fact 8 (f := .glo "forks_of") rfl))
  have C_flags := ok_flags_by (P := P) (w := w) (base := base) T C_forksof F12 (He.glo_ok X G (c1.fact 12 (f := .glo "flags_by_fork") rfl))
  have Mcheck_writer := ok_check_writer (P := P) (w := w) (mg := mg) (base := base) PC F34 (He.meth_ok (c1.fact 65 (f := .meth "ForkPlan" "check_writer") rfl))
  have Mcheck_state := ok_check_state (P := P) (w := w) (mg := mg) (base := base) T PC C_below F35 (He.meth_ok (c1.fact 66 (f := .meth "ForkPlan" "check_state") rfl))
  have Mcells_of := ok_cells_of (P := P) (w := w) (mg := mg) (base := base) T PC Mcheck_writer F36 (He.meth_ok (c1.fact 67 (f := .meth "ForkPlan" "cells_of") rfl))
  have Mturned := ok_turned (P := P) (w := w) (mg := mg) (base := base) T PC C_below Mcheck_state F37 (He.meth_ok (c1.fact 68 (f := .meth "ForkPlan" "turned") rfl))
  have M_parity := ok_parity (P := P) (w := w) (mg := mg) (base := base) T PC F38 (He.meth_ok (c1.fact 69 (f := .meth "ForkPlan" "_parity") rfl))
  have M_leaf_from := ok_leaf_from (P := P) (w := w) (mg := mg) (base := base) T PC M_parity F39 (He.meth_ok (c1.fact 70 (f := .meth "ForkPlan" "_leaf_from") rfl))
  have Mtold := ok_told (P := P) (w := w) (mg := mg) (base := base) PC Mcheck_state M_leaf_from F40 (He.meth_ok (c1.fact 71 (f := .meth "ForkPlan" "told") rfl))
  have Mwrong_forks := ok_wrong (P := P) (w := w) (mg := mg) (base := base) T PC Mcheck_state Mcheck_writer M_parity F41 (He.meth_ok (c1.fact 72 (f := .meth "ForkPlan" "wrong_forks") rfl))
  have Mturns := ok_turns (P := P) (w := w) (mg := mg) (base := base) T PC Mwrong_forks Mcells_of F42 (He.meth_ok (c1.fact 73 (f := .meth "ForkPlan" "turns") rfl))
  have C_over := ok_over (P := P) (w := w) (base := base) PC Mturns Mturned F0 (He.glo_ok X G (c1.fact 0 (f := .glo "overlapped") rfl))
  have C_loses := ok_loses (P := P) (w := w) (base := base) PC C_over Mtold F1 (He.glo_ok X G (c1.fact 1 (f := .glo "loses") rfl))
  have C_safe := ok_safe (P := P) (w := w) (base := base) PC F2 (He.glo_ok X G (c1.fact 2 (f := .glo "safe_pairs") rfl))
  have C_asked := ok_asked (P := P) (w := w) (base := base) C_over C_loses F26 (He.glo_ok X G (c1.fact 27 (f := .glo "_law_asked") rfl))
  have C_never := ok_never (P := P) (w := w) (base := base) T C_asked F29 (He.glo_ok X G (c1.fact 30 (f := .glo "_law_never") rfl))
  have C_lost := ok_lost (P := P) (w := w) (base := base) T PC.cl C_take C_state C_side C_after C_teller C_asked Mtold F30 (He.glo_ok X G (c1.fact 31 (f := .glo "_law_lost") rfl))
  have FPI := ok_plan_init (P := P) (w := w) (mg := mg) (base := base) T PC FP
  have BPI : Binds K fdP ["self", "names", "cells", "sizes"] [] := FunD.bindsN FP (fun _ _ _ _ _ _ us hl => match us, hl with | [_, _, _, _], _ => rfl)
  have FI := ok_init (P := P) (w := w) (base := base) T PC D FPI BPI C_waysof C_flags C_format
  exact ok_law T PC.cl MK FI D.toIniD.binds (He.glo_ok X G (c1.fact 13 (f := .glo "ForkPlan") rfl)) C_box C_take C_many C_names C_tree C_book C_parting C_safe C_isp C_state C_all C_some C_never C_lost F33
end Fk

set_option Elab.async false
set_option linter.all false
set_option maxRecDepth 100000
set_option maxHeartbeats 0
open PySem PySem.W PySem.Calls PyProof.Rows
theorem PySem.Challenge.cw_forkflags_k34_whole_safe_pairs_holds : PySem.Challenge.rw_forkflags_k34_whole_safe_pairs.Holds := by
  w_on; o_law
  refine HandSHeadRun.head_any (r := OpenLaw.row PySem.Challenge.rw_forkflags_k34_whole_safe_pairs) (q := view (OpenLaw.row PySem.Challenge.rw_forkflags_k34_whole_safe_pairs).prog [59]) (H := FkH.hk) (ob := FkH.ob) (M := 20000) (loose := FkH.loose) (d := HandSHeadRun.topDef (OpenLaw.row PySem.Challenge.rw_forkflags_k34_whole_safe_pairs).prog 59) (kwd := []) FkH.ob_eq
    (by kernel_rfl) (fun s => by kernel_rfl) FkH.run (by kernel_rfl) (by kernel_rfl) (by kernel_rfl) (by rfl) (by first | assumption | decide +kernel) (by decide +kernel) ⟨rfl, rfl, rfl, rfl, rfl, by decide +kernel⟩ ?hw ?hc
  case hw => w_witness2
  case hc =>
    refine L2.walk_ofE (l := PySem.Challenge.rw_forkflags_k34_whole_safe_pairs) (n := 63) (k := 16) (x := "_law_script") (CX := L2.CX0) rfl (by decide) (by kernel_rfl) ⟨rfl, by decide, by decide⟩ ?F (fun _ _ _ _ z => z)
    intro w mg fa h Y G hmg0
    obtain ⟨K, KX, c⟩ := Y
    have hmg : mg ("law" : PySem.Str) = some (.ref fa) := by
      have e : (HandSHeadRun.topDef (OpenLaw.row PySem.Challenge.rw_forkflags_k34_whole_safe_pairs).prog 59).name = ("law" : PySem.Str) := by kernel_rfl
      rw [← e]
      exact hmg0
    obtain ⟨fd, hb, hF⟩ := Fk.facts (P := (PySem.Challenge.rw_forkflags_k34_whole_safe_pairs).prog) (w := w) KX G hmg c (by kernel_rfl) (by kernel_rfl)
    exact ⟨K, fd, Fk.spLaw K, KX, hb, fun H a ns hl _ hS => ⟨a, ns, rfl, hS, fun _ => rfl⟩, hF⟩
