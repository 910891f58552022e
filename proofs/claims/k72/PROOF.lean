import PyProof.Rows.All
import PyProof.P3Statements
import PyProof.Claim2
import PyProof.EqLayable
import KE.LtData
import Wide.All
import OpenK.AllK
import Wide.FinOn
import HandS.ForMost
import HandS.Codes
import HandS.Evl
import HandS.TupAny
import HandS.Deep
import HandS.IsInst
import HandS.Zip
import KE.SortData
import KE.GoesEnum
import KE.GoesMore
import KE.DataCmp
import HandS.Set
import HandS.SetFor
import HandS.Strs
import HandS.More
import KE.KExcIs
import HandS.Exc
import HandS.ExcOwn
import HandS.ExcInit
import HandS.ExcField
import HandS.WordsExc
import HandS.Words
import HandS.Defaults
import HandS.Head0
import HandS.Head1
import HandS.Head2
import HandS.HeadEnd
import HandS.HeadHook1
import HandS.HeadHook2
import HandS.Small
import HandS.WideBits
import HandS.Wide
import PySem.Challenge.RW_felltimber_k72_whole_sorts_needed
import HandS.DictSub
import KE.KExcInit
/-! FM1 -/
set_option autoImplicit false
set_option linter.all false
/-! Plain Lean: ladders and groves as trees of cells, what the program's small functions reckon on them. -/
namespace Fell
open PySem
inductive Lad where
  | nil
  | cons (e : Lad) (m : Int) (r : Lad)
  deriving DecidableEq
namespace Lad
def ds : Lad → List PyData
  | nil => []
  | cons e m r => .tuple [.tuple e.ds, .int m] :: r.ds
def d (a : Lad) : PyData := .tuple a.ds
def prD (p : Lad × Int) : PyData := .tuple [p.1.d, .int p.2]
def toL : Lad → List (Lad × Int)
  | nil => []
  | cons e m r => (e, m) :: r.toL
def ofL : List (Lad × Int) → Lad
  | [] => nil
  | p :: r => cons p.1 p.2 (ofL r)
theorem ofL_toL : ∀ a : Lad, ofL a.toL = a
  | nil => rfl
  | cons e m r => congrArg (cons e m) (ofL_toL r)
theorem toL_ofL : ∀ l : List (Lad × Int), (ofL l).toL = l
  | [] => rfl
  | p :: r => congrArg (p :: ·) (toL_ofL r)
theorem ds_toL : ∀ a : Lad, a.ds = a.toL.map prD
  | nil => rfl
  | cons e m r => congrArg (_ :: ·) (ds_toL r)
theorem ofL_ds (l : List (Lad × Int)) : (ofL l).ds = l.map prD := by rw [ds_toL, toL_ofL]
def len : Lad → Nat
  | nil => 0
  | cons _ _ r => 1 + r.len
def parts : Lad → Nat
  | nil => 0
  | cons e _ r => 1 + e.parts + r.parts
def dep : Lad → Nat
  | nil => 0
  | cons e _ r => max (1 + e.dep) r.dep
theorem len_le_parts : ∀ a : Lad, a.len ≤ a.parts
  | nil => Nat.le_refl _
  | cons e m r => by have := len_le_parts r; simp only [len, parts]; omega
theorem dep_le_parts : ∀ a : Lad, a.dep ≤ a.parts
  | nil => Nat.le_refl _
  | cons e m r => by have := dep_le_parts r; have := dep_le_parts e; simp only [dep, parts]; omega
theorem toL_length : ∀ a : Lad, a.toL.length = a.len
  | nil => rfl
  | cons e m r => by rw [toL, List.length_cons, toL_length r, len, Nat.add_comm]
theorem ds_length (a : Lad) : a.ds.length = a.len := by rw [ds_toL, List.length_map, toL_length]
/-- all manys, at any depth, are at least 1 -/
def pos : Lad → Prop
  | nil => True
  | cons e m r => e.pos ∧ 1 ≤ m ∧ r.pos
def drop : Nat → Lad → Lad
  | 0, a => a
  | _ + 1, nil => nil
  | n + 1, cons _ _ r => drop n r
theorem drop_get : ∀ {a : Lad} {i : Nat} {p : Lad × Int}, a.toL[i]? = some p → a.drop i = cons p.1 p.2 (a.drop (i + 1))
  | nil, i, p, h => by simp [toL] at h
  | cons e m r, 0, p, h => by
    have h' : (e, m) = p := by simpa [toL] using h
    subst h'
    cases r <;> rfl
  | cons e m r, i + 1, p, h => by
    have h' : r.toL[i]? = some p := by simpa [toL] using h
    show r.drop i = cons p.1 p.2 (r.drop (i + 1))
    exact drop_get h'
theorem drop_end : ∀ {a : Lad} {i : Nat}, a.len ≤ i → a.drop i = nil
  | nil, 0, _ => rfl
  | nil, _ + 1, _ => rfl
  | cons e m r, 0, h => by simp [len] at h
  | cons e m r, i + 1, h => by
    show r.drop i = nil
    exact drop_end (by simp [len] at h; omega)
theorem drop_toL : ∀ (a : Lad) (i : Nat), (a.drop i).toL = a.toL.drop i
  | a, 0 => by cases a <;> rfl
  | nil, i + 1 => rfl
  | cons e m r, i + 1 => by
    show (r.drop i).toL = r.toL.drop i
    exact drop_toL r i
theorem drop_len : ∀ (a : Lad) (i : Nat), (a.drop i).len = a.len - i
  | a, 0 => by cases a <;> rfl
  | nil, i + 1 => by simp [drop, len]
  | cons e m r, i + 1 => by
    show (r.drop i).len = _
    rw [drop_len r i, len]; omega
/-- equal as data, equal -/
theorem eqvs : ∀ a b : Lad, PyData.eqvAll a.ds b.ds = decide (a = b)
  | nil, nil => by simp [ds, PyData.eqvAll]
  | nil, cons e m r => by simp [ds, PyData.eqvAll]
  | cons e m r, nil => by simp [ds, PyData.eqvAll]
  | cons e m r, cons e' m' r' => by
    have h1 := eqvs e e'
    have h2 := eqvs r r'
    simp only [ds, PyData.eqvAll, PyData.eqv, h1, h2, Bool.and_true]
    by_cases a : e = e' <;> by_cases b : m = m' <;> by_cases c : r = r' <;> simp [a, b, c]
theorem eqv (a b : Lad) : PyData.eqv a.d b.d = decide (a = b) := by
  show PyData.eqv (.tuple a.ds) (.tuple b.ds) = _
  rw [PyData.eqv]
  exact eqvs a b
/-- the one is less -/
def less : Lad → Lad → Bool
  | nil, nil => false
  | nil, cons _ _ _ => true
  | cons _ _ _, nil => false
  | cons e m r, cons e' m' r' => if e ≠ e' then less e e' else if m ≠ m' then decide (m < m') else less r r'
theorem less_nil (a : Lad) : less a nil = false := by cases a <;> rfl
def app : Lad → Lad → Lad
  | nil, b => b
  | cons e m r, b => cons e m (app r b)
theorem toL_app : ∀ a b : Lad, (app a b).toL = a.toL ++ b.toL
  | nil, _ => rfl
  | cons e m r, b => congrArg (_ :: ·) (toL_app r b)
theorem app_ofL : ∀ (l : List (Lad × Int)) (b : Lad), app (ofL l) b = ofL (l ++ b.toL)
  | [], b => (ofL_toL b).symm
  | p :: r, b => congrArg (cons p.1 p.2) (app_ofL r b)
/-- the pairs with greater exponents -/
def gt (e : Lad) (a : Lad) : Lad := ofL (a.toL.filter fun p => less e p.1)
def same (e : Lad) (a : Lad) : Int := ((a.toL.filter fun p => decide (p.1 = e)).map (·.2)).sum
def behind (one other : Lad) : Lad :=
  match other with
  | nil => one
  | cons e m r => app (gt e one) (cons e (same e one + m) r)
def both : Lad → Lad → Lad
  | one, nil => one
  | nil, cons e m r => cons e m r
  | cons e1 m1 r1, cons e m r =>
    if less e e1 = true then cons e1 m1 (both r1 (cons e m r))
    else if e1 = e then cons e (m1 + m) (both r1 r)
    else cons e m (both (cons e1 m1 r1) r)
termination_by a b => a.len + b.len
decreasing_by all_goals (simp only [len]; omega)
def manyOf (a : Lad) (k : Int) : Lad := if k = 0 then nil else ofL (a.toL.map fun p => (p.1, p.2 * k))
def one : Lad := cons nil 1 nil
def power (a : Lad) : Lad := cons a 1 nil
def above (a other : Lad) : Lad :=
  match other with
  | nil => both a one
  | cons e _ _ => both (gt e a) (power (behind e one))
def spread (a other : Lad) : Lad :=
  match other with
  | nil => a
  | cons _ _ _ => match a with
    | nil => nil
    | cons e _ _ => power (behind e other)

/-! ### sizes -/
theorem parts_app : ∀ a b : Lad, (app a b).parts = a.parts + b.parts
  | nil, b => by simp [app, parts]
  | cons e m r, b => by simp only [app, parts, parts_app r b]; omega
theorem dep_app : ∀ a b : Lad, (app a b).dep = max a.dep b.dep
  | nil, b => by simp [app, dep]
  | cons e m r, b => by simp only [app, dep, dep_app r b]; omega
theorem pos_app : ∀ {a b : Lad}, a.pos → b.pos → (app a b).pos
  | nil, _, _, h => h
  | cons e m r, _, h, k => ⟨h.1, h.2.1, pos_app h.2.2 k⟩
theorem parts_filter (f : Lad × Int → Bool) : ∀ a : Lad, (ofL (a.toL.filter f)).parts ≤ a.parts
  | nil => Nat.le_refl _
  | cons e m r => by
    have h := parts_filter f r
    simp only [toL, List.filter_cons]
    split
    · simp only [ofL, parts]; omega
    · simp only [parts]; omega
theorem dep_filter (f : Lad × Int → Bool) : ∀ a : Lad, (ofL (a.toL.filter f)).dep ≤ a.dep
  | nil => Nat.le_refl _
  | cons e m r => by
    have h := dep_filter f r
    simp only [toL, List.filter_cons]
    split
    · simp only [ofL, dep]; omega
    · simp only [dep]; omega
theorem pos_filter (f : Lad × Int → Bool) : ∀ {a : Lad}, a.pos → (ofL (a.toL.filter f)).pos
  | nil, h => h
  | cons e m r, h => by
    have k := pos_filter f h.2.2
    simp only [toL, List.filter_cons]
    split
    · exact ⟨h.1, h.2.1, k⟩
    · exact k
theorem same_nonneg (e : Lad) : ∀ {a : Lad}, a.pos → 0 ≤ same e a
  | nil, _ => by simp [same, toL]
  | cons x m r, h => by
    have k := same_nonneg e h.2.2
    have hm := h.2.1
    unfold same at k ⊢
    simp only [toL, List.filter_cons]
    split
    · simp only [List.map_cons, List.sum_cons]; omega
    · exact k
theorem parts_behind (a b : Lad) : (behind a b).parts ≤ a.parts + b.parts := by
  cases b with
  | nil => simp [behind]
  | cons e m r =>
    have h := parts_filter (fun p => less e p.1) a
    simp only [behind, parts_app, gt, parts]; omega
theorem dep_behind (a b : Lad) : (behind a b).dep ≤ max a.dep b.dep := by
  cases b with
  | nil => simp only [behind]; omega
  | cons e m r =>
    have h := dep_filter (fun p => less e p.1) a
    simp only [behind, dep_app, gt, dep]; omega
theorem pos_behind {a b : Lad} (ha : a.pos) (hb : b.pos) : (behind a b).pos := by
  cases b with
  | nil => exact ha
  | cons e m r =>
    have h := same_nonneg e ha
    have hm := hb.2.1
    exact pos_app (pos_filter _ ha) ⟨hb.1, by omega, hb.2.2⟩
theorem both_facts : ∀ a b : Lad, (both a b).parts ≤ a.parts + b.parts ∧ (both a b).dep ≤ max a.dep b.dep ∧ (a.pos → b.pos → (both a b).pos)
  | a, nil => by simp only [both, parts, dep]; exact ⟨by omega, by omega, fun h _ => h⟩
  | nil, cons e m r => by simp only [both, parts, dep]; exact ⟨by omega, by omega, fun _ h => h⟩
  | cons e1 m1 r1, cons e m r => by
    rw [both]
    split
    · obtain ⟨h1, h2, h3⟩ := both_facts r1 (cons e m r)
      simp only [parts, dep] at h1 h2 ⊢
      exact ⟨by omega, by omega, fun p q => ⟨p.1, p.2.1, h3 p.2.2 q⟩⟩
    · split
      · obtain ⟨h1, h2, h3⟩ := both_facts r1 r
        simp only [parts, dep] at h1 h2 ⊢
        exact ⟨by omega, by omega, fun p q => ⟨q.1, by have := p.2.1; have := q.2.1; omega, h3 p.2.2 q.2.2⟩⟩
      · obtain ⟨h1, h2, h3⟩ := both_facts (cons e1 m1 r1) r
        simp only [parts, dep] at h1 h2 ⊢
        exact ⟨by omega, by omega, fun p q => ⟨q.1, q.2.1, h3 p q.2.2⟩⟩
termination_by a b => a.len + b.len
decreasing_by all_goals (simp only [len]; omega)
theorem many_facts (k : Int) : ∀ a : Lad, (ofL (a.toL.map fun p => (p.1, p.2 * k))).parts = a.parts ∧ (ofL (a.toL.map fun p => (p.1, p.2 * k))).dep = a.dep ∧ (1 ≤ k → a.pos → (ofL (a.toL.map fun p => (p.1, p.2 * k))).pos)
  | nil => ⟨rfl, rfl, fun _ h => h⟩
  | cons e m r => by
    obtain ⟨h1, h2, h3⟩ := many_facts k r
    simp only [toL, List.map_cons, ofL, parts, dep, h1, h2]
    refine ⟨trivial, trivial, fun hk p => ⟨p.1, ?_, h3 hk p.2.2⟩⟩
    have hm := p.2.1
    have : 1 * 1 ≤ m * k := Int.mul_le_mul hm hk (by omega) (by omega)
    omega
theorem parts_many (a : Lad) (k : Int) : (manyOf a k).parts ≤ a.parts := by
  unfold manyOf
  split
  · simp [parts]
  · rw [(many_facts k a).1]; exact Nat.le_refl _
theorem dep_many (a : Lad) (k : Int) : (manyOf a k).dep ≤ a.dep := by
  unfold manyOf
  split
  · simp [dep]
  · rw [(many_facts k a).2.1]; exact Nat.le_refl _
theorem pos_many {a : Lad} {k : Int} (hk : 1 ≤ k) (ha : a.pos) : (manyOf a k).pos := by
  unfold manyOf
  split
  · trivial
  · exact (many_facts k a).2.2 hk ha
theorem pos_one : one.pos := ⟨trivial, by decide, trivial⟩
theorem above_facts (a b : Lad) : (above a b).parts ≤ a.parts + b.parts + 1 ∧ (above a b).dep ≤ max (max a.dep b.dep) 2 ∧ (a.pos → b.pos → (above a b).pos) := by
  cases b with
  | nil =>
    obtain ⟨h1, h2, h3⟩ := both_facts a one
    simp only [above, one, parts, dep] at h1 h2 ⊢
    exact ⟨by omega, by omega, fun p _ => h3 p pos_one⟩
  | cons e m r =>
    obtain ⟨h1, h2, h3⟩ := both_facts (gt e a) (power (behind e one))
    have p1 := parts_filter (fun p => less e p.1) a
    have p2 := dep_filter (fun p => less e p.1) a
    have p3 := parts_behind e one
    have p4 := dep_behind e one
    have o1 : one.parts = 1 := rfl
    have o2 : one.dep = 1 := rfl
    simp only [above, power, gt, parts, dep] at h1 h2 p1 p2 ⊢
    refine ⟨by omega, by omega, fun p q => h3 (pos_filter _ p) ⟨pos_behind q.1 pos_one, by decide, trivial⟩⟩
theorem spread_facts (a b : Lad) : (spread a b).parts ≤ a.parts + b.parts + 1 ∧ (spread a b).dep ≤ max a.dep b.dep + 1 ∧ (a.pos → b.pos → (spread a b).pos) := by
  cases b with
  | nil => exact ⟨by simp [spread, parts], by simp only [spread]; omega, fun p _ => p⟩
  | cons e m r =>
    cases a with
    | nil => exact ⟨by simp [spread, parts], by simp [spread, dep], fun _ _ => trivial⟩
    | cons x k t =>
      have p3 := parts_behind x (cons e m r)
      have p4 := dep_behind x (cons e m r)
      simp only [spread, power, parts, dep] at p3 p4 ⊢
      exact ⟨by omega, by omega, fun p q => ⟨pos_behind p.1 q, by decide, trivial⟩⟩
end Lad
end Fell

/-! FM2 -/
set_option autoImplicit false
set_option linter.all false
/-! Plain Lean: groves, weights, own ranks. -/
namespace Fell
open PySem
inductive Grv where
  | nil
  | cons (k : Str) (g : Grv) (m : Int) (r : Grv)
  deriving DecidableEq
namespace Grv
def ds : Grv → List PyData
  | nil => []
  | cons k g m r => .tuple [.tuple [.str k, .tuple g.ds], .int m] :: r.ds
def d (a : Grv) : PyData := .tuple a.ds
abbrev Tree := Str × Grv
def trD (t : Tree) : PyData := .tuple [.str t.1, t.2.d]
def prD (p : Tree × Int) : PyData := .tuple [trD p.1, .int p.2]
def toL : Grv → List (Tree × Int)
  | nil => []
  | cons k g m r => ((k, g), m) :: r.toL
def ofL : List (Tree × Int) → Grv
  | [] => nil
  | p :: r => cons p.1.1 p.1.2 p.2 (ofL r)
theorem ofL_toL : ∀ a : Grv, ofL a.toL = a
  | nil => rfl
  | cons k g m r => congrArg (cons k g m) (ofL_toL r)
theorem toL_ofL : ∀ l : List (Tree × Int), (ofL l).toL = l
  | [] => rfl
  | p :: r => congrArg (p :: ·) (toL_ofL r)
theorem ds_toL : ∀ a : Grv, a.ds = a.toL.map prD
  | nil => rfl
  | cons k g m r => congrArg (_ :: ·) (ds_toL r)
def len : Grv → Nat
  | nil => 0
  | cons _ _ _ r => 1 + r.len
def parts : Grv → Nat
  | nil => 0
  | cons _ g _ r => 1 + g.parts + r.parts
def dep : Grv → Nat
  | nil => 0
  | cons _ g _ r => max (1 + g.dep) r.dep
/-- the kinds of all trees, in the order in which they are met -/
def stands : Grv → List Str
  | nil => []
  | cons k g _ r => k :: (g.stands ++ r.stands)
theorem toL_length : ∀ a : Grv, a.toL.length = a.len
  | nil => rfl
  | cons k g m r => by rw [toL, List.length_cons, toL_length r, len, Nat.add_comm]
theorem ds_length (a : Grv) : a.ds.length = a.len := by rw [ds_toL, List.length_map, toL_length]
theorem len_le_parts : ∀ a : Grv, a.len ≤ a.parts
  | nil => Nat.le_refl _
  | cons k g m r => by have := len_le_parts r; simp only [len, parts]; omega
theorem dep_le_parts : ∀ a : Grv, a.dep ≤ a.parts
  | nil => Nat.le_refl _
  | cons k g m r => by have := dep_le_parts r; have := dep_le_parts g; simp only [dep, parts]; omega
theorem stands_length : ∀ a : Grv, a.stands.length = a.parts
  | nil => rfl
  | cons k g m r => by simp only [stands, parts, List.length_cons, List.length_append, stands_length g, stands_length r]; omega
/-- the members of a grove's own list -/
theorem mem_facts : ∀ {a : Grv} {p : Tree × Int}, p ∈ a.toL → p.1.2.parts + 1 ≤ a.parts ∧ 1 + p.1.2.dep ≤ a.dep ∧ p.1.1 ∈ a.stands ∧ ∀ k ∈ p.1.2.stands, k ∈ a.stands
  | nil, p, h => by cases h
  | cons k g m r, p, h => by
    rcases List.mem_cons.mp h with e | h
    · subst e
      simp only [parts, dep, stands]
      exact ⟨by omega, by omega, List.mem_cons_self, fun k hk => List.mem_cons_of_mem _ (List.mem_append_left _ hk)⟩
    · obtain ⟨h1, h2, h3, h4⟩ := mem_facts h
      simp only [parts, dep, stands]
      exact ⟨by omega, by omega, List.mem_cons_of_mem _ (List.mem_append_right _ h3), fun k hk => List.mem_cons_of_mem _ (List.mem_append_right _ (h4 k hk))⟩
theorem eqvs : ∀ a b : Grv, PyData.eqvAll a.ds b.ds = decide (a = b)
  | nil, nil => by simp [ds, PyData.eqvAll]
  | nil, cons k g m r => by simp [ds, PyData.eqvAll]
  | cons k g m r, nil => by simp [ds, PyData.eqvAll]
  | cons k g m r, cons k' g' m' r' => by
    have h1 := eqvs g g'
    have h2 := eqvs r r'
    simp only [ds, PyData.eqvAll, PyData.eqv, h1, h2, Bool.and_true]
    by_cases a : k = k' <;> by_cases b : m = m' <;> by_cases c : r = r' <;> by_cases e : g = g' <;> simp [a, b, c, e]
theorem eqv (a b : Grv) : PyData.eqv a.d b.d = decide (a = b) := by
  show PyData.eqv (.tuple a.ds) (.tuple b.ds) = _
  rw [PyData.eqv]
  exact eqvs a b
theorem eqv_tree (a b : Tree) : PyData.eqv (trD a) (trD b) = decide (a = b) := by
  obtain ⟨k, g⟩ := a
  obtain ⟨k', g'⟩ := b
  simp only [trD, PyData.eqv, PyData.eqvAll, eqv, Bool.and_true]
  by_cases a : k = k' <;> by_cases c : g = g' <;> simp [a, c]
theorem alike_ds : ∀ a b : Grv, PySem.W.alikeAll a.ds b.ds = true
  | nil, nil => by simp [ds, PySem.W.alikeAll]
  | nil, cons k g m r => by simp [ds, PySem.W.alikeAll]
  | cons k g m r, nil => by simp [ds, PySem.W.alikeAll]
  | cons k g m r, cons k' g' m' r' => by
    have h1 := alike_ds g g'
    have h2 := alike_ds r r'
    simp only [ds, PySem.W.alikeAll, PySem.W.alike, h1, h2, Bool.and_true, Bool.and_self]
theorem alike_tree (a b : Tree) : PySem.W.alike (trD a) (trD b) = true := by
  simp only [trD, d, PySem.W.alikeAll, PySem.W.alike, alike_ds, Bool.and_true, Bool.and_self]
theorem alike_pair (a b : Tree × Int) : PySem.W.alike (prD a) (prD b) = true := by
  simp only [prD, PySem.W.alikeAll, PySem.W.alike, alike_tree, Bool.and_true, Bool.and_self]
/-- a tree ahead of another one, as Python sorts them -/
def lt (a b : Tree) : Bool := PySem.W.dataLt (trD a) (trD b)
/-- the trees rise -/
def rises : List (Tree × Int) → Prop
  | [] => True
  | [_] => True
  | p :: q :: r => lt p.1 q.1 = true ∧ rises (q :: r)
/-- a grove of these kinds, its trees rising, its manys from 1 to 10 ** 9 -/
def Ok (ok : Str → Prop) : Grv → Prop
  | nil => True
  | cons k g m r => ok k ∧ Ok ok g ∧ (1 ≤ m ∧ m ≤ 1000000000) ∧ Ok ok r ∧ rises (((k, g), m) :: r.toL) ∧ rises g.toL
theorem Ok.mem {ok : Str → Prop} : ∀ {a : Grv}, Ok ok a → ∀ {p : Tree × Int}, p ∈ a.toL → ok p.1.1 ∧ Ok ok p.1.2 ∧ 1 ≤ p.2 ∧ p.2 ≤ 1000000000 ∧ rises p.1.2.toL
  | nil, _, p, hp => by cases hp
  | cons k g m r, h, p, hp => by
    rcases List.mem_cons.mp hp with e | hp
    · subst e
      exact ⟨h.1, h.2.1, h.2.2.1.1, h.2.2.1.2, h.2.2.2.2.2⟩
    · exact Ok.mem h.2.2.2.1 hp
theorem Ok.rises {ok : Str → Prop} {a : Grv} (h : Ok ok a) : Grv.rises a.toL := by
  cases a with
  | nil => trivial
  | cons k g m r => exact h.2.2.2.2.1
theorem Ok.mono {ok ok' : Str → Prop} (f : ∀ k, ok k → ok' k) : ∀ {a : Grv}, Ok ok a → Ok ok' a
  | nil, _ => trivial
  | cons k g m r, h => ⟨f k h.1, Ok.mono f h.2.1, h.2.2.1, Ok.mono f h.2.2.2.1, h.2.2.2.2.1, h.2.2.2.2.2⟩
theorem Ok.stands {ok : Str → Prop} : ∀ {a : Grv}, Ok ok a → ∀ k ∈ a.stands, ok k
  | nil, _, k, hk => by cases hk
  | cons x g m r, h, k, hk => by
    rcases List.mem_cons.mp hk with e | hk
    · rw [e]; exact h.1
    · rcases List.mem_append.mp hk with hk | hk
      · exact Ok.stands h.2.1 k hk
      · exact Ok.stands h.2.2.2.1 k hk

/-! ### weights -/
def tree (sp : Str → Bool) (rk : Str → Lad) (k : Str) (inner : Lad) : Lad := if sp k = true then Lad.spread (rk k) inner else Lad.behind (rk k) inner
def wg (sp : Str → Bool) (rk : Str → Lad) : Lad → Grv → Lad
  | acc, nil => acc
  | acc, cons k g m r => wg sp rk (Lad.both acc (Lad.manyOf (tree sp rk k (wg sp rk .nil g)) m)) r
theorem wg_congr {sp : Str → Bool} {rk rk' : Str → Lad} : ∀ (g : Grv) (acc : Lad), (∀ k ∈ g.stands, rk k = rk' k) → wg sp rk acc g = wg sp rk' acc g
  | nil, _, _ => rfl
  | cons k g m r, acc, h => by
    have h0 := h k List.mem_cons_self
    have h1 := wg_congr (sp := sp) g .nil fun x hx => h x (List.mem_cons_of_mem _ (List.mem_append_left _ hx))
    have h2 := fun acc => wg_congr (sp := sp) r acc fun x hx => h x (List.mem_cons_of_mem _ (List.mem_append_right _ hx))
    simp only [wg, tree, h0, h1, h2]
theorem wg_facts {sp : Str → Bool} {rk : Str → Lad} {S D : Nat} : ∀ (g : Grv) (acc : Lad), (∀ k ∈ g.stands, (rk k).parts ≤ S ∧ (rk k).dep ≤ D ∧ (rk k).pos) →
    (wg sp rk acc g).parts ≤ acc.parts + (S + 1) * g.parts ∧ (wg sp rk acc g).dep ≤ max acc.dep (D + g.dep) ∧ ((∀ p ∈ g.toL, 1 ≤ p.2) → (∀ k : Str → Prop, Ok (fun _ => True) g → acc.pos → (wg sp rk acc g).pos))
  | nil, acc, _ => by simp only [wg, parts, dep]; exact ⟨by omega, by omega, fun _ _ _ h => h⟩
  | cons k g m r, acc, h => by
    obtain ⟨a1, a2, a3⟩ := h k List.mem_cons_self
    obtain ⟨i1, i2, i3⟩ := wg_facts (sp := sp) g .nil fun x hx => h x (List.mem_cons_of_mem _ (List.mem_append_left _ hx))
    have t : (tree sp rk k (wg sp rk .nil g)).parts ≤ (S + 1) * (1 + g.parts) ∧ (tree sp rk k (wg sp rk .nil g)).dep ≤ D + (1 + g.dep) ∧ ((wg sp rk .nil g).pos → (tree sp rk k (wg sp rk .nil g)).pos) := by
      have e : (S + 1) * (1 + g.parts) = (S + 1) + (S + 1) * g.parts := by rw [Nat.mul_add, Nat.mul_one]
      simp only [Lad.parts, Lad.dep] at i1 i2
      unfold tree
      split
      · obtain ⟨s1, s2, s3⟩ := Lad.spread_facts (rk k) (wg sp rk .nil g)
        exact ⟨by omega, by omega, fun hp => s3 a3 hp⟩
      · have s1 := Lad.parts_behind (rk k) (wg sp rk .nil g)
        have s2 := Lad.dep_behind (rk k) (wg sp rk .nil g)
        exact ⟨by omega, by omega, fun hp => Lad.pos_behind a3 hp⟩
    obtain ⟨t1, t2, t3⟩ := t
    have m1 := Lad.parts_many (tree sp rk k (wg sp rk .nil g)) m
    have m2 := Lad.dep_many (tree sp rk k (wg sp rk .nil g)) m
    obtain ⟨b1, b2, b3⟩ := Lad.both_facts acc (Lad.manyOf (tree sp rk k (wg sp rk .nil g)) m)
    obtain ⟨r1, r2, r3⟩ := wg_facts (sp := sp) r (Lad.both acc (Lad.manyOf (tree sp rk k (wg sp rk .nil g)) m)) fun x hx => h x (List.mem_cons_of_mem _ (List.mem_append_right _ hx))
    have e : (S + 1) * (1 + g.parts + r.parts) = (S + 1) * (1 + g.parts) + (S + 1) * r.parts := by rw [Nat.mul_add]
    simp only [wg, parts, dep]
    refine ⟨by omega, by omega, fun _ q ok hp => ?_⟩
    refine r3 (fun p hp => (ok.2.2.2.1.mem hp).2.2.1) q ok.2.2.2.1 (b3 hp (Lad.pos_many ok.2.2.1.1 (t3 (i3 (fun p hp => (ok.2.1.mem hp).2.2.1) q ok.2.1 trivial))))
theorem wg_pos {sp : Str → Bool} {rk : Str → Lad} {S D : Nat} {ok : Str → Prop} {g : Grv} (h : ∀ k ∈ g.stands, (rk k).parts ≤ S ∧ (rk k).dep ≤ D ∧ (rk k).pos) (o : Ok ok g) : (wg sp rk .nil g).pos :=
  (wg_facts g .nil h).2.2 (fun p hp => (o.mem hp).2.2.1) ok (o.mono fun _ _ => trivial) trivial
end Grv
abbrev Rule := Grv × Grv
structure Kind where
  name : Str
  spr : Bool
  rules : List Rule
def ruleD (r : Rule) : PyData := .tuple [r.1.d, r.2.d]
def kindD (k : Kind) : PyData := .tuple [.str k.name, .bool k.spr, .list (k.rules.map ruleD)]
/-- the kinds that stand in a rule, in a kind's rules -/
def standsR (r : Rule) : List Str := r.1.stands ++ r.2.stands
def standsK (rs : List Rule) : List Str := rs.flatMap standsR
def names (bk : List Kind) : List Str := bk.map (·.name)
def rulesOf (bk : List Kind) (n : Str) : List Rule := ((bk.find? fun k => decide (k.name = n)).map (·.rules)).getD []
def sprOf (bk : List Kind) (n : Str) : Bool := ((bk.find? fun k => decide (k.name = n)).map (·.spr)).getD false
def succ (bk : List Kind) (n : Str) : List Str := standsK (rulesOf bk n)
def wgR (sp : Str → Bool) (rk : Str → Lad) (r : Rule) : Lad := Lad.above (Grv.wg sp rk .nil r.1) (Grv.wg sp rk .nil r.2)
def bestStep (sp : Str → Bool) (rk : Str → Lad) (l : Lad) (r : Rule) : Lad := if Lad.less l (wgR sp rk r) = true then wgR sp rk r else l
def best (sp : Str → Bool) (rk : Str → Lad) (rs : List Rule) : Lad := rs.foldl (bestStep sp rk) Lad.one
/-- what a book is -/
structure RuleOk (ok : Str → Prop) (r : Rule) : Prop where
  o : Grv.Ok ok r.1
  e : Grv.Ok ok r.2
  few : r.1.parts + r.2.parts ≤ 2
structure BookOk (bk : List Kind) : Prop where
  pos : bk ≠ []
  few : bk.length ≤ 8
  nd : (names bk).Nodup
  rules : ∀ k ∈ bk, k.rules.length ≤ 3 ∧ ∀ r ∈ k.rules, RuleOk (· ∈ names bk) r
theorem rulesOf_mem {bk : List Kind} (n : Str) : rulesOf bk n = [] ∨ ∃ k ∈ bk, k.name = n ∧ rulesOf bk n = k.rules := by
  unfold rulesOf
  cases h : bk.find? fun k => decide (k.name = n) with
  | none => exact .inl rfl
  | some k =>
    have q := List.find?_some h
    exact .inr ⟨k, List.mem_of_find?_eq_some h, by simpa using q, rfl⟩
theorem find_at {bk : List Kind} (nd : (names bk).Nodup) {k : Kind} (h : k ∈ bk) : (bk.find? fun x => decide (x.name = k.name)) = some k := by
  induction bk with
  | nil => cases h
  | cons x l ih =>
    have nd' : x.name ∉ names l ∧ (names l).Nodup := List.nodup_cons.mp nd
    rw [List.find?_cons]
    rcases List.mem_cons.mp h with e | h
    · subst e; simp
    · have ne : ¬ x.name = k.name := fun e => nd'.1 (by rw [e]; exact List.mem_map.mpr ⟨k, h, rfl⟩)
      simp only [ne, decide_false]
      exact ih nd'.2 h
theorem rulesOf_at {bk : List Kind} (nd : (names bk).Nodup) {k : Kind} (h : k ∈ bk) : rulesOf bk k.name = k.rules := by
  unfold rulesOf
  rw [find_at nd h]
  rfl
theorem sprOf_at {bk : List Kind} (nd : (names bk).Nodup) {k : Kind} (h : k ∈ bk) : sprOf bk k.name = k.spr := by
  unfold sprOf
  rw [find_at nd h]
  rfl
theorem BookOk.rule {bk : List Kind} (B : BookOk bk) {n : Str} {r : Rule} (h : r ∈ rulesOf bk n) : RuleOk (· ∈ names bk) r := by
  rcases rulesOf_mem (bk := bk) n with e | ⟨k, hk, _, e⟩
  · rw [e] at h; cases h
  · rw [e] at h
    exact (B.rules k hk).2 r h
theorem BookOk.rulesLen {bk : List Kind} (B : BookOk bk) (n : Str) : (rulesOf bk n).length ≤ 3 := by
  rcases rulesOf_mem (bk := bk) n with e | ⟨k, hk, _, e⟩
  · rw [e]; exact Nat.zero_le _
  · rw [e]; exact (B.rules k hk).1
theorem standsR_ok {bk : List Kind} {r : Rule} (h : RuleOk (· ∈ names bk) r) : ∀ k ∈ standsR r, k ∈ names bk := fun k hk => by
  rcases List.mem_append.mp hk with hk | hk
  · exact h.o.stands k hk
  · exact h.e.stands k hk
theorem BookOk.succ {bk : List Kind} (B : BookOk bk) {n k : Str} (h : k ∈ succ bk n) : k ∈ names bk := by
  obtain ⟨r, hr, hk⟩ := List.mem_flatMap.mp h
  exact standsR_ok (B.rule hr) k hk
theorem standsR_len {ok : Str → Prop} {r : Rule} (h : RuleOk ok r) : (standsR r).length ≤ 2 := by
  unfold standsR
  rw [List.length_append, Grv.stands_length, Grv.stands_length]
  exact h.few

/-! ### sizes of ranks -/
def capS (n : Nat) : Nat := 4 * 2 ^ n - 3
def capD (n : Nat) : Nat := 1 + 2 * n
structure LadOk (n : Nat) (a : Lad) : Prop where
  parts : a.parts ≤ capS n
  dep : a.dep ≤ capD n
  pos : a.pos
theorem capS_succ (n : Nat) : capS (n + 1) = 2 * capS n + 3 := by
  have h : 1 ≤ 2 ^ n := Nat.one_le_two_pow
  simp only [capS, Nat.pow_succ]
  omega
theorem capS_mono {n m : Nat} (h : n ≤ m) : capS n ≤ capS m := by
  have := Nat.pow_le_pow_right (n := 2) (by omega) h
  simp only [capS]
  omega
theorem LadOk.mono {n m : Nat} {a : Lad} (h : LadOk n a) (l : n ≤ m) : LadOk m a :=
  ⟨Nat.le_trans h.parts (capS_mono l), Nat.le_trans h.dep (by simp only [capD]; omega), h.pos⟩
theorem ladOk_one (n : Nat) : LadOk n Lad.one := ⟨by
  have h : 1 ≤ 2 ^ n := Nat.one_le_two_pow
  show 1 ≤ capS n
  simp only [capS]
  omega, by show 1 ≤ capD n; simp only [capD]; omega, Lad.pos_one⟩
theorem wgR_ok {sp : Str → Bool} {rk : Str → Lad} {n : Nat} {ok : Str → Prop} {r : Rule} (R : RuleOk ok r) (h : ∀ k ∈ standsR r, LadOk n (rk k)) : LadOk (n + 1) (wgR sp rk r) := by
  have h1 : ∀ k ∈ r.1.stands, (rk k).parts ≤ capS n ∧ (rk k).dep ≤ capD n ∧ (rk k).pos := fun k hk =>
    let x := h k (List.mem_append_left _ hk); ⟨x.parts, x.dep, x.pos⟩
  have h2 : ∀ k ∈ r.2.stands, (rk k).parts ≤ capS n ∧ (rk k).dep ≤ capD n ∧ (rk k).pos := fun k hk =>
    let x := h k (List.mem_append_right _ hk); ⟨x.parts, x.dep, x.pos⟩
  obtain ⟨a1, a2, _⟩ := Grv.wg_facts (sp := sp) r.1 .nil h1
  obtain ⟨b1, b2, _⟩ := Grv.wg_facts (sp := sp) r.2 .nil h2
  obtain ⟨c1, c2, c3⟩ := Lad.above_facts (Grv.wg sp rk .nil r.1) (Grv.wg sp rk .nil r.2)
  have f := R.few
  have d1 := Grv.dep_le_parts r.1
  have d2 := Grv.dep_le_parts r.2
  have hm : (capS n + 1) * r.1.parts + (capS n + 1) * r.2.parts ≤ (capS n + 1) * 2 := by
    rw [← Nat.mul_add]
    exact Nat.mul_le_mul (Nat.le_refl _) f
  have e := capS_succ n
  simp only [Lad.parts, Lad.dep] at a1 a2 b1 b2
  refine ⟨?_, ?_, c3 (Grv.wg_pos h1 R.o) (Grv.wg_pos h2 R.e)⟩
  · show (Lad.above _ _).parts ≤ _
    omega
  · show (Lad.above _ _).dep ≤ _
    simp only [capD] at a2 b2 ⊢
    omega
theorem best_go {sp : Str → Bool} {rk : Str → Lad} {n : Nat} {ok : Str → Prop} : ∀ (rs : List Rule) (l : Lad), (∀ r ∈ rs, RuleOk ok r) → (∀ k ∈ standsK rs, LadOk n (rk k)) → LadOk (n + 1) l → LadOk (n + 1) (rs.foldl (bestStep sp rk) l)
  | [], _, _, _, h => h
  | r :: rs, l, R, h, hl => by
    have w := wgR_ok (sp := sp) (R r List.mem_cons_self) fun k hk => h k (List.mem_flatMap.mpr ⟨r, List.mem_cons_self, hk⟩)
    refine best_go rs _ (fun x hx => R x (List.mem_cons_of_mem _ hx)) (fun k hk => ?_) ?_
    · obtain ⟨x, hx, hk⟩ := List.mem_flatMap.mp hk
      exact h k (List.mem_flatMap.mpr ⟨x, List.mem_cons_of_mem _ hx, hk⟩)
    · unfold bestStep
      split
      · exact w
      · exact hl
theorem best_ok {sp : Str → Bool} {rk : Str → Lad} {n : Nat} {ok : Str → Prop} {rs : List Rule} (R : ∀ r ∈ rs, RuleOk ok r) (h : ∀ k ∈ standsK rs, LadOk n (rk k)) : LadOk (n + 1) (best sp rk rs) :=
  best_go rs Lad.one R h (ladOk_one _)
theorem best_ne {sp : Str → Bool} {rk : Str → Lad} : ∀ (rs : List Rule) (l : Lad), l ≠ .nil → rs.foldl (bestStep sp rk) l ≠ .nil
  | [], _, h => h
  | r :: rs, l, h => by
    refine best_ne rs _ ?_
    unfold bestStep
    split
    · rename_i q
      intro e
      rw [e, Lad.less_nil] at q
      cases q
    · exact h
end Fell

/-! FL1 -/
set_option Elab.async false
set_option linter.all false
set_option maxRecDepth 100000
set_option maxHeartbeats 4000000
/-! Data over the hand layer: what a value stands for, what an expression comes to. -/
namespace Fell
open PySem L2 Evl
abbrev KK := PySem.W.Frag

/-! ### facts that stay -/
mutual
theorem dp_ex {K : KK} {H H' : Hp} (e : Ex H H') : ∀ {d : PyData} {v : V}, Dp K H v d → Dp K H' v d
  | .none, _, h => by cases h; exact .non
  | .bool b, _, h => by cases h; exact .bl b
  | .int i, _, h => by cases h; exact .int i
  | .str x, _, h => by cases h; exact .str x
  | .list ds, _, h => by
    cases h with
    | lst s a => exact .lst (ex_l e s) (dpa_ex e a)
  | .tuple ds, _, h => by
    cases h with
    | tup s a => exact .tup (ex_t e s) (dpa_ex e a)
  | .dict _, _, h => by cases h
theorem dpa_ex {K : KK} {H H' : Hp} (e : Ex H H') : ∀ {ds : List PyData} {vs : List V}, DpAll K H vs ds → DpAll K H' vs ds
  | [], _, h => by cases h; exact .nil
  | d :: ds, _, h => by
    cases h with
    | cons h t => exact .cons (dp_ex e h) (dpa_ex e t)
end
mutual
/-- data without lists -/
def noL : PyData → Bool
  | .list _ => false
  | .dict _ => false
  | .tuple xs => noLs xs
  | _ => true
def noLs : List PyData → Bool
  | [] => true
  | x :: xs => noL x && noLs xs
end
/-- tuples stand -/
def Tx (H H' : Hp) : Prop := ∀ a xs, Rd H a (.tup xs) → Rd H' a (.tup xs)
theorem Tx.refl (H : Hp) : Tx H H := fun _ _ h => h
theorem Tx.trans {H H1 H2 : Hp} (a : Tx H H1) (b : Tx H1 H2) : Tx H H2 := fun x o h => b x o (a x o h)
theorem tx_ex {H H' : Hp} (e : Ex H H') : Tx H H' := fun _ _ h => ex_rd e h
theorem tx_t {K : KK} {H H' : Hp} (e : Tx H H') {a : Addr} {xs : List V} (h : SqT K H a xs) : SqT K H' a xs := by
  rcases h with h | h
  · exact .inl (e _ _ h)
  · exact .inr h
/-- a list, a dict, an instance may change -/
theorem tx_upd {H : Hp} {p : Addr} {o u : HO} (h : H p = some u) (n1 : ∀ xs, u ≠ .tup xs) (n2 : ∀ ob xs, u ≠ .frz ob (.tup xs)) : Tx H (upd H p o) := fun a xs q => by
  rcases q with q | ⟨ob, q⟩
  · have ne : a ≠ p := fun e => by rw [e, h] at q; exact n1 xs (Option.some.inj q)
    exact .inl (by rw [upd_ne ne]; exact q)
  · have ne : a ≠ p := fun e => by rw [e, h] at q; exact n2 ob xs (Option.some.inj q)
    exact .inr ⟨ob, by rw [upd_ne ne]; exact q⟩
theorem tx_lst {H : Hp} {p : Addr} {o : HO} {zs : List V} (h : H p = some (.lst zs)) : Tx H (upd H p o) := tx_upd h (fun _ z => nomatch z) fun _ _ z => nomatch z
theorem tx_dK {H : Hp} {p : Addr} {o : HO} {zs : List (Key × V)} (h : H p = some (.dK zs)) : Tx H (upd H p o) := tx_upd h (fun _ z => nomatch z) fun _ _ z => nomatch z
theorem tx_ins {H : Hp} {p C dx : Addr} {o : HO} {fs : List (Str × V)} (h : H p = some (.ins C dx fs)) : Tx H (upd H p o) := tx_upd h (fun _ z => nomatch z) fun _ _ z => nomatch z
theorem tx_new {H : Hp} {p : Addr} {o : HO} (h : H p = none) : Tx H (upd H p o) := tx_ex (Ex.new h)
mutual
theorem dp_tx {K : KK} {H H' : Hp} (e : Tx H H') : ∀ {d : PyData} {v : V}, noL d = true → Dp K H v d → Dp K H' v d
  | .none, _, _, h => by cases h; exact .non
  | .bool b, _, _, h => by cases h; exact .bl b
  | .int i, _, _, h => by cases h; exact .int i
  | .str x, _, _, h => by cases h; exact .str x
  | .list ds, _, n, h => by simp [noL] at n
  | .tuple ds, _, n, h => by
    cases h with
    | tup s a => exact .tup (tx_t e s) (dpa_tx e (by simpa [noL] using n) a)
  | .dict _, _, _, h => by cases h
theorem dpa_tx {K : KK} {H H' : Hp} (e : Tx H H') : ∀ {ds : List PyData} {vs : List V}, noLs ds = true → DpAll K H vs ds → DpAll K H' vs ds
  | [], _, _, h => by cases h; exact .nil
  | d :: ds, _, n, h => by
    have n' : noL d = true ∧ noLs ds = true := by simpa [noLs] using n
    cases h with
    | cons h t => exact .cons (dp_tx e n'.1 h) (dpa_tx e n'.2 t)
end
theorem noLs_all : ∀ {ds : List PyData}, (∀ d ∈ ds, noL d = true) → noLs ds = true
  | [], _ => by simp [noLs]
  | d :: ds, h => by
    simp only [noLs, h d List.mem_cons_self, noLs_all fun x hx => h x (List.mem_cons_of_mem _ hx), Bool.and_self]
theorem nol_lads : ∀ a : Lad, noLs a.ds = true
  | .nil => by simp [Lad.ds, noLs]
  | .cons e m r => by simp [Lad.ds, noLs, noL, nol_lads e, nol_lads r]
theorem nol_lad (a : Lad) : noL a.d = true := by
  show noL (.tuple a.ds) = true
  rw [noL]
  exact nol_lads a
theorem nol_lpr (p : Lad × Int) : noL (Lad.prD p) = true := by
  simp only [Lad.prD, noL, noLs, nol_lad, Bool.and_self]
theorem nol_grvs : ∀ a : Grv, noLs a.ds = true
  | .nil => by simp [Grv.ds, noLs]
  | .cons k g m r => by simp [Grv.ds, noLs, noL, nol_grvs g, nol_grvs r]
theorem nol_grv (a : Grv) : noL a.d = true := by
  show noL (.tuple a.ds) = true
  rw [noL]
  exact nol_grvs a
theorem nol_tr (t : Grv.Tree) : noL (Grv.trD t) = true := by
  simp only [Grv.trD, noL, noLs, nol_grv, Bool.and_self]
theorem nol_gpr (p : Grv.Tree × Int) : noL (Grv.prD p) = true := by
  simp only [Grv.prD, noL, noLs, nol_tr, Bool.and_self]
theorem nol_rule (r : Rule) : noL (ruleD r) = true := by
  simp only [ruleD, noL, noLs, nol_grv, Bool.and_self]

/-! ### what stands for what -/
section
variable {K : KK} {H H' : Hp} {v : V} {vs : List V} {ds : List PyData}
theorem dp_int {i : Int} (h : Dp K H v (.int i)) : v = .int i := by cases h; rfl
theorem dp_str {x : Str} (h : Dp K H v (.str x)) : v = .str x := by cases h; rfl
theorem dp_bl {b : Bool} (h : Dp K H v (.bool b)) : v = .bl b := by cases h; rfl
theorem dp_tup (h : Dp K H v (.tuple ds)) : ∃ a xs, v = .ref a ∧ SqT K H a xs ∧ DpAll K H xs ds := by
  cases h with
  | tup s a => exact ⟨_, _, rfl, s, a⟩
theorem dp_lst (h : Dp K H v (.list ds)) : ∃ a xs, v = .ref a ∧ SqL K H a xs ∧ DpAll K H xs ds := by
  cases h with
  | lst s a => exact ⟨_, _, rfl, s, a⟩
theorem dpa_len : ∀ {vs : List V} {ds : List PyData}, DpAll K H vs ds → vs.length = ds.length
  | _, _, .nil => rfl
  | _, _, .cons _ t => by rw [List.length_cons, List.length_cons, dpa_len t]
theorem dpa_get : ∀ {vs : List V} {ds : List PyData} {i : Nat} {v : V}, DpAll K H vs ds → vs[i]? = some v → ∃ d, ds[i]? = some d ∧ Dp K H v d
  | _, _, _, _, .nil, e => by simp at e
  | _, _, 0, _, .cons h _, e => by simp at e; subst e; exact ⟨_, rfl, h⟩
  | _, _, i + 1, _, .cons _ t, e => by
    obtain ⟨d, q, h⟩ := dpa_get (i := i) t (by simpa using e)
    exact ⟨d, by simpa using q, h⟩
theorem dpa_at : ∀ {vs : List V} {ds : List PyData} {i : Nat} {d : PyData}, DpAll K H vs ds → ds[i]? = some d → ∃ v, vs[i]? = some v ∧ Dp K H v d
  | _, _, _, _, .nil, e => by simp at e
  | _, _, 0, _, .cons h _, e => by simp at e; subst e; exact ⟨_, rfl, h⟩
  | _, _, i + 1, _, .cons _ t, e => by
    obtain ⟨d, q, h⟩ := dpa_at (i := i) t (by simpa using e)
    exact ⟨d, by simpa using q, h⟩
theorem dpa_app : ∀ {vs ws : List V} {ds es : List PyData}, DpAll K H vs ds → DpAll K H ws es → DpAll K H (vs ++ ws) (ds ++ es)
  | _, _, _, _, .nil, h => h
  | _, _, _, _, .cons a t, h => .cons a (dpa_app t h)
theorem dpa_take : ∀ {vs : List V} {ds : List PyData} (n : Nat), DpAll K H vs ds → DpAll K H (vs.take n) (ds.take n)
  | _, _, 0, _ => .nil
  | _, _, _ + 1, .nil => .nil
  | _, _, n + 1, .cons a t => .cons a (dpa_take n t)
theorem dpa_drop : ∀ {vs : List V} {ds : List PyData} (n : Nat), DpAll K H vs ds → DpAll K H (vs.drop n) (ds.drop n)
  | _, _, 0, h => h
  | _, _, _ + 1, .nil => .nil
  | _, _, n + 1, .cons a t => dpa_drop n t
theorem dpa_one {d : PyData} (h : DpAll K H vs [d]) : ∃ v, vs = [v] ∧ Dp K H v d := by
  cases h with
  | cons a t => cases t; exact ⟨_, rfl, a⟩
theorem dpa_two {d e : PyData} (h : DpAll K H vs [d, e]) : ∃ v w, vs = [v, w] ∧ Dp K H v d ∧ Dp K H w e := by
  cases h with
  | cons a t =>
    obtain ⟨w, rfl, b⟩ := dpa_one t
    exact ⟨_, w, rfl, a, b⟩
theorem dpa_three {d e f : PyData} (h : DpAll K H vs [d, e, f]) : ∃ v w x, vs = [v, w, x] ∧ Dp K H v d ∧ Dp K H w e ∧ Dp K H x f := by
  cases h with
  | cons a t =>
    obtain ⟨w, x, rfl, b, c⟩ := dpa_two t
    exact ⟨_, w, x, rfl, a, b, c⟩
theorem dpa_ints : ∀ (ns : List Int), DpAll K H (ns.map V.int) (ns.map PyData.int)
  | [] => .nil
  | n :: ns => .cons (.int n) (dpa_ints ns)
theorem dpa_ints_eq : ∀ {vs : List V} {ns : List Int}, DpAll K H vs (ns.map PyData.int) → vs = ns.map V.int
  | _, [], h => by cases h; rfl
  | _, n :: ns, h => by
    cases h with
    | cons a t => rw [dp_int a, dpa_ints_eq t]; rfl
theorem dpa_strs : ∀ (ns : List Str), DpAll K H (ns.map V.str) (ns.map PyData.str)
  | [] => .nil
  | n :: ns => .cons (.str n) (dpa_strs ns)
theorem dpa_strs_eq : ∀ {vs : List V} {ns : List Str}, DpAll K H vs (ns.map PyData.str) → vs = ns.map V.str
  | _, [], h => by cases h; rfl
  | _, n :: ns, h => by
    cases h with
    | cons a t => rw [dp_str a, dpa_strs_eq t]; rfl
theorem dpa_bools_eq : ∀ {vs : List V} {ns : List Bool}, DpAll K H vs (ns.map PyData.bool) → vs = ns.map V.bl
  | _, [], h => by cases h; rfl
  | _, n :: ns, h => by
    cases h with
    | cons a t => rw [dp_bl a, dpa_bools_eq t]; rfl
end

/-! ### expressions -/
/-- te comes to what d is -/
def EvD (K : KK) (te : TE) (σ : L2.St) (H : Hp) (d : PyData) : Prop := ∀ H1, Ex H H1 → ∀ Q : VK, (∀ v H2, Ex H1 H2 → Dp K H2 v d → Q v H2) → te σ H1 Q
/-- arguments -/
def EvDA (K : KK) (ta : TA) (σ : L2.St) (H : Hp) (ds : List PyData) : Prop := ∀ H1, Ex H H1 → ∀ Q : List V → Hp → Prop, (∀ vs H2, Ex H1 H2 → DpAll K H2 vs ds → Q vs H2) → ta σ H1 Q
section
variable {K : KK} {σ : L2.St} {H H' : Hp} {ta tb te tx : TE} {t u : TT} {x y z v : V} {r : R2} {d d' : PyData} {ds es : List PyData}
theorem EvD.mono (e : Ex H H') (h : EvD K te σ H d) : EvD K te σ H' d := fun H1 a Q q => h H1 (e.trans a) Q q
theorem EvDA.mono {ta : TA} (e : Ex H H') (h : EvDA K ta σ H ds) : EvDA K ta σ H' ds := fun H1 a Q q => h H1 (e.trans a) Q q
theorem ed_var {i : Nat} (h : σ[i]? = some (some v)) (hd : Dp K H v d) : EvD K (tVar i) σ H d := fun H1 e _ q => ⟨v, h, q v H1 (Ex.refl H1) (dp_ex e hd)⟩
theorem ed_ev (h : Ev te σ H v) (hd : ∀ H1, Dp K H1 v d) : EvD K te σ H d := fun H1 e Q q => h H1 e Q fun H2 e2 => q v H2 e2 (hd H2)
theorem ed_evx (h : Ev te σ H v) (hd : Dp K H v d) : EvD K te σ H d := fun H1 e Q q => h H1 e Q fun H2 e2 => q v H2 e2 (dp_ex (e.trans e2) hd)
theorem ed_int {i : Int} (h : Ev te σ H (.int i)) : EvD K te σ H (.int i) := ed_ev h fun _ => .int i
theorem ed_str {i : Str} (h : Ev te σ H (.str i)) : EvD K te σ H (.str i) := ed_ev h fun _ => .str i
theorem ed_bl {i : Bool} (h : Ev te σ H (.bl i)) : EvD K te σ H (.bool i) := ed_ev h fun _ => .bl i
theorem ev_int {i : Int} (h : EvD K te σ H (.int i)) : Ev te σ H (.int i) := fun H1 e Q q => h H1 e Q fun v H2 e2 hd => by rw [dp_int hd]; exact q H2 e2
theorem ev_str {i : Str} (h : EvD K te σ H (.str i)) : Ev te σ H (.str i) := fun H1 e Q q => h H1 e Q fun v H2 e2 hd => by rw [dp_str hd]; exact q H2 e2
theorem ev_bl {i : Bool} (h : EvD K te σ H (.bool i)) : Ev te σ H (.bl i) := fun H1 e Q q => h H1 e Q fun v H2 e2 hd => by rw [dp_bl hd]; exact q H2 e2
theorem eda_nil : EvDA K tNil σ H [] := fun H1 _ _ q => q [] H1 (Ex.refl H1) .nil
theorem eda_cons {tr : TA} (h : EvD K ta σ H d) (hr : EvDA K tr σ H ds) : EvDA K (tCons ta tr) σ H (d :: ds) := fun H1 e _ q =>
  h H1 e _ fun v H2 e2 hv => hr H2 (e.trans e2) _ fun vs H3 e3 hvs => q (v :: vs) H3 (e2.trans e3) (.cons (dp_ex e3 hv) hvs)
theorem eda_1 (h : EvD K ta σ H d) : EvDA K (tCons ta tNil) σ H [d] := eda_cons h eda_nil
theorem eda_2 (h : EvD K ta σ H d) (h' : EvD K tb σ H d') : EvDA K (tCons ta (tCons tb tNil)) σ H [d, d'] := eda_cons h (eda_1 h')
theorem eda_3 {d'' : PyData} (h : EvD K ta σ H d) (h' : EvD K tb σ H d') (h'' : EvD K tx σ H d'') : EvDA K (tCons ta (tCons tb (tCons tx tNil))) σ H [d, d', d''] := eda_cons h (eda_2 h' h'')
theorem ed_tup {ta : TA} (h : EvDA K ta σ H ds) (hl : ds.length ≤ 100000) : EvD K (tTup ta) σ H (.tuple ds) := fun H1 e _ q =>
  h H1 e _ fun vs H2 e2 hv => ⟨sz_of (by rw [dpa_len hv]; exact hl), fun p hp => q (.ref p) _ (e2.trans (Ex.new hp)) (.tup (st_of upd_same) (dpa_ex (Ex.new hp) hv))⟩
theorem ed_nilT : EvD K (tTup tNil) σ H (.tuple []) := ed_tup eda_nil (by decide)
theorem ed_lst {ta : TA} (h : EvDA K ta σ H ds) (hl : ds.length ≤ 100000) : EvD K (tLst ta) σ H (.list ds) := fun H1 e _ q =>
  h H1 e _ fun vs H2 e2 hv => ⟨sz_of (by rw [dpa_len hv]; exact hl), fun p hp => q (.ref p) _ (e2.trans (Ex.new hp)) (.lst (sq_of upd_same) (dpa_ex (Ex.new hp) hv))⟩
theorem atI_map {α β : Type} (f : α → β) (xs : List α) (i : Int) : atI (xs.map f) i = (atI xs i).map f := by
  unfold atI
  rw [List.length_map]
  cases ixN xs.length i with
  | none => rfl
  | some j => simp
theorem atI_dpa {xs : List V} {i : Int} (h : DpAll K H xs ds) (ha : atI ds i = some d) : ∃ v, atI xs i = some v ∧ Dp K H v d := by
  unfold atI at ha ⊢
  rw [dpa_len h]
  cases hx : ixN ds.length i with
  | none => rw [hx] at ha; cases ha
  | some j =>
    rw [hx] at ha
    exact dpa_at h ha
theorem atI_n {α : Type} {xs : List α} {j : Nat} {v : α} (h : xs[j]? = some v) : atI xs (j : Int) = some v := by
  obtain ⟨hj, _⟩ := List.getElem?_eq_some_iff.mp h
  unfold atI ixN
  rw [if_pos (by omega), if_pos (by omega)]
  simpa using h
theorem ed_ixT {i : Int} (ha : EvD K ta σ H (.tuple ds)) (hb : EvD K tb σ H (.int i)) (hi : atI ds i = some d) : EvD K (tOp (rIxT K) ta tb) σ H d := fun H1 e Q q =>
  ha H1 e _ fun v H2 e2 hv => hb H2 (e.trans e2) _ fun w H3 e3 hw => by
    obtain ⟨a, xs, rfl, hs, hx⟩ := dp_tup (dp_ex e3 hv)
    obtain ⟨u, h1, h2⟩ := atI_dpa hx hi
    exact ⟨a, xs, i, u, rfl, dp_int hw, hs, h1, q u H3 (e2.trans e3) h2⟩
theorem ed_ixL {i : Int} (ha : EvD K ta σ H (.list ds)) (hb : EvD K tb σ H (.int i)) (hi : atI ds i = some d) : EvD K (tOp (rIxL K) ta tb) σ H d := fun H1 e Q q =>
  ha H1 e _ fun v H2 e2 hv => hb H2 (e.trans e2) _ fun w H3 e3 hw => by
    obtain ⟨a, xs, rfl, hs, hx⟩ := dp_lst (dp_ex e3 hv)
    obtain ⟨u, h1, h2⟩ := atI_dpa hx hi
    exact ⟨a, xs, i, u, rfl, dp_int hw, hs, h1, q u H3 (e2.trans e3) h2⟩
/-- t[k], k written -/
theorem ed_at {i : Nat} (ha : EvD K ta σ H (.tuple ds)) (hi : ds[i]? = some d) : EvD K (tOp (rIxT K) ta (tC (.int (i : Int)))) σ H d := ed_ixT ha (ed_int ev_c) (atI_n hi)
theorem ed_atL {i : Nat} (ha : EvD K ta σ H (.list ds)) (hi : ds[i]? = some d) : EvD K (tOp (rIxL K) ta (tC (.int (i : Int)))) σ H d := ed_ixL ha (ed_int ev_c) (atI_n hi)
theorem ev_eqD (ha : EvD K ta σ H d) (hb : EvD K tb σ H d') (s1 : SeqAt.shaped d = true) (s2 : SeqAt.shaped d' = true) : Ev (tOp (rEqD K) ta tb) σ H (.bl (PyData.eqv d d')) := fun H1 e Q q =>
  ha H1 e _ fun v H2 e2 hv => hb H2 (e.trans e2) _ fun w H3 e3 hw => ⟨d, d', dp_ex e3 hv, hw, s1, s2, q H3 (e2.trans e3)⟩
theorem ev_neD (ha : EvD K ta σ H d) (hb : EvD K tb σ H d') (s1 : SeqAt.shaped d = true) (s2 : SeqAt.shaped d' = true) : Ev (tOp (rNeD K) ta tb) σ H (.bl (!PyData.eqv d d')) := fun H1 e Q q =>
  ha H1 e _ fun v H2 e2 hv => hb H2 (e.trans e2) _ fun w H3 e3 hw => ⟨d, d', dp_ex e3 hv, hw, s1, s2, q H3 (e2.trans e3)⟩
end
end Fell

/-! FL2 -/
set_option Elab.async false
set_option linter.all false
set_option maxRecDepth 100000
set_option maxHeartbeats 4000000
/-! Data over the hand layer, further: slices, calls, comprehensions, loops. -/
namespace Fell
open PySem L2 Evl
section
variable {K : KK} {σ : L2.St} {H H' : Hp} {ta tb te tx : TE} {t u : TT} {x y z v : V} {r : R2} {d d' : PyData} {ds es : List PyData}
/-! ### slices, sums of tuples -/
theorem cut_from {xs : List V} {i : Nat} (h : i ≤ xs.length) : cutV xs (some (i : Int)) none = xs.drop i := by
  unfold cutV
  have e1 : HT.sIx xs.length 0 (some (i : Int)) = i := by rw [HT.sIx_nat]; omega
  have e2 : HT.sIx xs.length xs.length none = xs.length := rfl
  rw [e1, e2]
  exact List.take_of_length_le (by rw [List.length_drop]; omega)
theorem ed_slT {i : Nat} {tl : TE} (ha : EvD K ta σ H (.tuple ds)) (hl : EvD K tl σ H (.int (i : Int))) (hi : i ≤ ds.length) : EvD K (tSl (rSlA K) ta (tPart tl) tNoPart) σ H (.tuple (ds.drop i)) := fun H1 e Q q =>
  ha H1 e _ fun v H2 e2 hv => hl H2 (e.trans e2) _ fun w H3 e3 hw => ⟨(i : Int), dp_int hw, by
    obtain ⟨a, xs, rfl, hs, hx⟩ := dp_tup (dp_ex e3 hv)
    have hl2 := dpa_len hx
    have ec := cut_from (xs := xs) (i := i) (by omega)
    have e1 : HT.sIx xs.length 0 (some (i : Int)) = i := by rw [HT.sIx_nat]; omega
    refine ⟨a, xs, rfl, hs, fun z => ?_, fun _ p hp => ?_⟩
    · have h0 : i = 0 := e1.symm.trans z.1
      subst h0
      exact q _ H3 (e2.trans e3) (.tup hs hx)
    · rw [ec]
      exact q _ _ ((e2.trans e3).trans (Ex.new hp)) (.tup (st_of upd_same) (dpa_ex (Ex.new hp) (dpa_drop i hx)))⟩
theorem ed_catT (ha : EvD K ta σ H (.tuple ds)) (hb : EvD K tb σ H (.tuple es)) (hl : ds.length + es.length ≤ 100000) : EvD K (tOp (rCatA K) ta tb) σ H (.tuple (ds ++ es)) := fun H1 e Q q =>
  ha H1 e _ fun v H2 e2 hv => hb H2 (e.trans e2) _ fun w H3 e3 hw => by
    obtain ⟨a, xs, rfl, hs, hx⟩ := dp_tup (dp_ex e3 hv)
    obtain ⟨b, ys, rfl, hs', hy⟩ := dp_tup hw
    have l1 := dpa_len hx
    have l2 := dpa_len hy
    refine ⟨a, b, xs, ys, rfl, rfl, hs, hs', sz_of (by omega), fun z => ?_, fun _ z => ?_, fun _ _ p hp => ?_⟩
    · subst z
      have e0 : ds = [] := List.length_eq_zero_iff.mp l1.symm
      subst e0
      exact q _ H3 (e2.trans e3) (.tup hs' hy)
    · subst z
      have e0 : es = [] := List.length_eq_zero_iff.mp l2.symm
      subst e0
      rw [List.append_nil] at q
      exact q _ H3 (e2.trans e3) (.tup hs hx)
    · exact q _ _ ((e2.trans e3).trans (Ex.new hp)) (.tup (st_of upd_same) (dpa_ex (Ex.new hp) (dpa_app hx hy)))

/-! ### calls -/
/-- called with what ds are, the def hands back what d is -/
def SpD (K : KK) (sp : Sp) (H : Hp) (ds : List PyData) (d : PyData) : Prop := ∀ vs H1, Ex H H1 → DpAll K H1 vs ds → ∀ Q : VK, (∀ v H2, Ex H1 H2 → Dp K H2 v d → Q v H2) → ∀ E : XK, sp vs H1 Q E
theorem ed_call {sp : Sp} {E : XK} {ta : TA} (h : EvDA K ta σ H ds) (hs : SpD K sp H ds d) : EvD K (tCall sp [] E ta) σ H d := fun H1 e Q q =>
  h H1 e _ fun vs H2 e2 hv => by
    show sp (vs ++ []) H2 Q E
    rw [List.append_nil]
    exact hs vs H2 (e.trans e2) hv Q (fun v H3 e3 h3 => q v H3 (e2.trans e3) h3) E
/-- a built-in -/
def RcD (K : KK) (r : List V → Hp → VK → Prop) (H : Hp) (ds : List PyData) (d : PyData) : Prop := ∀ vs H1, Ex H H1 → DpAll K H1 vs ds → ∀ Q : VK, (∀ v H2, Ex H1 H2 → Dp K H2 v d → Q v H2) → r vs H1 Q
theorem ed_cb {r : List V → Hp → VK → Prop} {ta : TA} (h : EvDA K ta σ H ds) (hs : RcD K r H ds d) : EvD K (tCB r ta) σ H d := fun H1 e Q q =>
  h H1 e _ fun vs H2 e2 hv => hs vs H2 (e.trans e2) hv Q fun v H3 e3 h3 => q v H3 (e2.trans e3) h3
theorem rc_sum {ns : List Int} : RcD K (rSum K) H [.list (ns.map PyData.int)] (.int ns.sum) := fun vs H1 e hv Q q => by
  obtain ⟨v, rfl, h⟩ := dpa_one hv
  obtain ⟨a, xs, rfl, hs, hx⟩ := dp_lst h
  rw [dpa_ints_eq hx] at hs
  exact ⟨a, ns, rfl, hs, q _ H1 (Ex.refl H1) (.int _)⟩
theorem rc_all {bs : List Bool} : RcD K (rAll K) H [.list (bs.map PyData.bool)] (.bool (bs.all id)) := fun vs H1 e hv Q q => by
  obtain ⟨v, rfl, h⟩ := dpa_one hv
  obtain ⟨a, xs, rfl, hs, hx⟩ := dp_lst h
  rw [dpa_bools_eq hx] at hs
  exact ⟨a, bs, rfl, hs, q _ H1 (Ex.refl H1) (.bl _)⟩
theorem rc_any {bs : List Bool} : RcD K (rAny K) H [.list (bs.map PyData.bool)] (.bool (bs.any id)) := fun vs H1 e hv Q q => by
  obtain ⟨v, rfl, h⟩ := dpa_one hv
  obtain ⟨a, xs, rfl, hs, hx⟩ := dp_lst h
  rw [dpa_bools_eq hx] at hs
  exact ⟨a, bs, rfl, hs, q _ H1 (Ex.refl H1) (.bl _)⟩
/-- len of a list or a tuple -/
theorem rc_lenT : RcD K (rLenS K) H [.tuple ds] (.int (ds.length : Int)) := fun vs H1 e hv Q q => by
  obtain ⟨v, rfl, h⟩ := dpa_one hv
  obtain ⟨a, xs, rfl, hs, hx⟩ := dp_tup h
  refine ⟨a, xs, rfl, .inr hs, ?_⟩
  rw [dpa_len hx]
  exact q _ H1 (Ex.refl H1) (.int _)
theorem rc_lenL : RcD K (rLenS K) H [.list ds] (.int (ds.length : Int)) := fun vs H1 e hv Q q => by
  obtain ⟨v, rfl, h⟩ := dpa_one hv
  obtain ⟨a, xs, rfl, hs, hx⟩ := dp_lst h
  refine ⟨a, xs, rfl, .inl hs, ?_⟩
  rw [dpa_len hx]
  exact q _ H1 (Ex.refl H1) (.int _)
theorem rc_listL : RcD K (rListS K) H [.list ds] (.list ds) := fun vs H1 e hv Q q => by
  obtain ⟨v, rfl, h⟩ := dpa_one hv
  obtain ⟨a, xs, rfl, hs, hx⟩ := dp_lst h
  exact ⟨a, xs, rfl, .inl hs, fun l hl => q _ _ (Ex.new hl) (.lst (sq_of upd_same) (dpa_ex (Ex.new hl) hx))⟩
/-- tuple(xs) of a list -/
def rTupS (K : KK) : List V → Hp → VK → Prop := fun xs H Q => ∃ p ys, xs = [.ref p] ∧ ((SqL K H p ys ∧ ∀ l, H l = none → Q (.ref l) (upd H l (.tup ys))) ∨ (SqT K H p ys ∧ Q (.ref p) H))
theorem rc_tupL : RcD K (rTupS K) H [.list ds] (.tuple ds) := fun vs H1 e hv Q q => by
  obtain ⟨v, rfl, h⟩ := dpa_one hv
  obtain ⟨a, xs, rfl, hs, hx⟩ := dp_lst h
  exact ⟨a, xs, rfl, .inl ⟨hs, fun l hl => q _ _ (Ex.new hl) (.tup (st_of upd_same) (dpa_ex (Ex.new hl) hx))⟩⟩

/-! ### targets -/
/-- (a, b) = a pair -/
theorem g_two {i j : Nat} {R : L2.St → Hp → Prop} (h : Dp K H v (.tuple [d, d'])) (k : ∀ w1 w2, Dp K H w1 d → Dp K H w2 d' → R ((σ.set i (some w1)).set j (some w2)) H) :
    gTup K 2 (gCons (gName i) (gCons (gName j) gNil)) v σ H R := by
  obtain ⟨a, xs, rfl, hs, hx⟩ := dp_tup h
  obtain ⟨w1, w2, rfl, h1, h2⟩ := dpa_two hx
  exact ⟨a, _, rfl, hs, rfl, w1, _, rfl, w2, _, rfl, rfl, k w1 w2 h1 h2⟩
theorem g_three {i j l : Nat} {d'' : PyData} {R : L2.St → Hp → Prop} (h : Dp K H v (.tuple [d, d', d''])) (k : ∀ w1 w2 w3, Dp K H w1 d → Dp K H w2 d' → Dp K H w3 d'' → R (((σ.set i (some w1)).set j (some w2)).set l (some w3)) H) :
    gTup K 3 (gCons (gName i) (gCons (gName j) (gCons (gName l) gNil))) v σ H R := by
  obtain ⟨a, xs, rfl, hs, hx⟩ := dp_tup h
  obtain ⟨w1, w2, w3, rfl, h1, h2, h3⟩ := dpa_three hx
  exact ⟨a, _, rfl, hs, rfl, w1, _, rfl, w2, _, rfl, w3, _, rfl, rfl, k w1 w2 w3 h1 h2 h3⟩

/-! ### statements -/
variable {D : Ends} {tu tw tz : TS} {g : TG}
theorem s_asgD (h : EvD K te σ H d) (k : ∀ v H1, Ex H H1 → Dp K H1 v d → g v σ H1 D.nx) : tAsg te g D σ H := h H (Ex.refl H) _ k
theorem q_asgD (h : EvD K te σ H d) (k : ∀ v H1, Ex H H1 → Dp K H1 v d → g v σ H1 (tz D)) : tSeq (tAsg te g) tz D σ H := s_asgD (D := { D with nx := tz D }) h k
theorem s_retD (h : EvD K te σ H d) (k : ∀ v H1, Ex H H1 → Dp K H1 v d → D.rt v H1) : tRet te D σ H := h H (Ex.refl H) _ k

/-! ### comprehensions -/
theorem lc_turnD {α : Type} {enc out : α → PyData} {ls : List α} {f : α → Bool} {vs : List Nat} {H1 : Hp} {Dl : Addr} {i : Nat} {a : α} {H2 : Hp} {x : V}
    (ho : ∀ a ∈ ls, f a = true → noL (out a) = true) (hz : ls.length ≤ 40000)
    (hb : ∀ R : L2.St → Hp → Prop, (∀ σ2 H3, Ex H2 H3 → wipe σ2 vs = wipe σ vs → EvT t σ2 H3 (f a) → (f a = true → EvD K te σ2 H3 (out a)) → R σ2 H3) → g x (wipe σ vs) H2 R)
    (ha : ls[i]? = some a) (p1 : H1 Dl = none) (p2 : Ex H1 H2) {acc : List V} (p3 : H2 Dl = some (.lst acc)) (p4 : DpAll K H2 acc (((ls.take i).filter f).map out)) :
    g x (wipe σ vs) H2 fun σ2 H3 => wipe σ2 vs = wipe σ vs ∧ t σ2 H3 fun b H4 => if b = true then te σ2 H4 fun y H5 => ∃ acc, H5 Dl = some (.lst acc) ∧ acc.length < sizeLine ∧
      (H1 Dl = none ∧ Ex H1 (upd H5 Dl (.lst (acc ++ [y]))) ∧ ∃ acc', (upd H5 Dl (.lst (acc ++ [y]))) Dl = some (.lst acc') ∧ DpAll K (upd H5 Dl (.lst (acc ++ [y]))) acc' (((ls.take (i + 1)).filter f).map out))
      else (H1 Dl = none ∧ Ex H1 H4 ∧ ∃ acc', H4 Dl = some (.lst acc') ∧ DpAll K H4 acc' (((ls.take (i + 1)).filter f).map out)) := by
  have et : ls.take (i + 1) = ls.take i ++ [a] := by rw [List.take_add_one, ha]; rfl
  have hm : a ∈ ls := List.mem_of_getElem? ha
  have hlen : acc.length ≤ 40000 := by
    rw [dpa_len p4, List.length_map]
    have := List.length_filter_le f (ls.take i)
    rw [List.length_take] at this
    omega
  refine hb _ fun σ2 H3 e3 hw ht hd => ⟨hw, ht H3 (Ex.refl H3) _ fun H4 e4 => ?_⟩
  cases hf : f a with
  | true =>
    show te σ2 H4 fun y H5 => _
    refine hd hf H4 e4 _ fun y H5 e5 hy => ⟨acc, ((e3.trans e4).trans e5) Dl _ p3, sz_lt (by omega), p1, Ex.mut (((p2.trans e3).trans e4).trans e5) p1, _, upd_same, ?_⟩
    have tx : Tx H5 (upd H5 Dl (.lst (acc ++ [y]))) := tx_lst (((e3.trans e4).trans e5) Dl _ p3)
    rw [et, List.filter_append, List.map_append]
    have n1 : noLs (((ls.take i).filter f).map out) = true := noLs_all fun d hd => by
      obtain ⟨b, hb, rfl⟩ := List.mem_map.mp hd
      obtain ⟨hb1, hb2⟩ := List.mem_filter.mp hb
      exact ho b (List.mem_of_mem_take hb1) hb2
    refine dpa_app (dpa_tx tx n1 (dpa_ex ((e3.trans e4).trans e5) p4)) ?_
    rw [List.filter_cons, if_pos hf]
    exact .cons (dp_tx tx (ho a hm hf) hy) .nil
  | false =>
    show _ ∧ _ ∧ _
    refine ⟨p1, (p2.trans e3).trans e4, acc, (e3.trans e4) Dl _ p3, ?_⟩
    rw [et, List.filter_append, List.filter_cons, if_neg (by rw [hf]; decide), List.filter_nil, List.append_nil]
    exact dpa_ex (e3.trans e4) p4
/-- a comprehension over a tuple -/
theorem ed_lcT {α : Type} {enc out : α → PyData} {ls : List α} {f : α → Bool} {tl : TE} {vs : List Nat} (h : EvD K tl σ H (.tuple (ls.map enc))) (hz : ls.length ≤ 40000) (ho : ∀ a ∈ ls, f a = true → noL (out a) = true)
    (hb : ∀ a ∈ ls, ∀ v H1, Ex H H1 → Dp K H1 v (enc a) → ∀ R : L2.St → Hp → Prop, (∀ σ2 H2, Ex H1 H2 → wipe σ2 vs = wipe σ vs → EvT t σ2 H2 (f a) → (f a = true → EvD K te σ2 H2 (out a)) → R σ2 H2) → g v (wipe σ vs) H1 R) :
    EvD K (tLc (iTup K tl) g t te vs) σ H (.list ((ls.filter f).map out)) := fun H0 e Q q => h H0 e _ fun v H1 e1 hv => by
  obtain ⟨a, xs, rfl, hs, hx⟩ := dp_tup hv
  have hl := dpa_len hx
  rw [List.length_map] at hl
  refine ⟨a, rfl, ⟨xs, hs⟩, fun Dl hD => lc_tup (xs := xs) (fun i H' => H1 Dl = none ∧ Ex H1 H' ∧ ∃ acc, H' Dl = some (.lst acc) ∧ DpAll K H' acc (((ls.take i).filter f).map out)) ⟨hD, Ex.new hD, [], upd_same, .nil⟩ (fun i H' _ p => ex_t p.2.1 hs) (fun i x H2 hi p => ?_) fun H2 p => ?_⟩
  · obtain ⟨p1, p2, acc, p3, p4⟩ := p
    obtain ⟨d, h1, h2⟩ := dpa_get hx hi
    rw [List.getElem?_map] at h1
    cases hai : ls[i]? with
    | none => rw [hai] at h1; cases h1
    | some b =>
      rw [hai] at h1
      cases h1
      exact lc_turnD (f := f) (enc := enc) ho hz (fun R k => hb b (List.mem_of_getElem? hai) x H2 ((e.trans e1).trans p2) (dp_ex p2 h2) R fun σ2 H3 e3 w a b => k σ2 H3 e3 w a b) hai p1 p2 p3 p4
  · obtain ⟨p1, p2, acc, p3, p4⟩ := p
    rw [hl, List.take_length] at p4
    exact q _ H2 (e1.trans p2) (.lst (sq_of p3) p4)
/-- a comprehension over a list -/
theorem ed_lcL {α : Type} {enc out : α → PyData} {ls : List α} {f : α → Bool} {tl : TE} {vs : List Nat} (h : EvD K tl σ H (.list (ls.map enc))) (hz : ls.length ≤ 40000) (ho : ∀ a ∈ ls, f a = true → noL (out a) = true)
    (hb : ∀ a ∈ ls, ∀ v H1, Ex H H1 → Dp K H1 v (enc a) → ∀ R : L2.St → Hp → Prop, (∀ σ2 H2, Ex H1 H2 → wipe σ2 vs = wipe σ vs → EvT t σ2 H2 (f a) → (f a = true → EvD K te σ2 H2 (out a)) → R σ2 H2) → g v (wipe σ vs) H1 R) :
    EvD K (tLc (iList K tl) g t te vs) σ H (.list ((ls.filter f).map out)) := fun H0 e Q q => h H0 e _ fun v H1 e1 hv => by
  obtain ⟨a, xs, rfl, hs, hx⟩ := dp_lst hv
  have hl := dpa_len hx
  rw [List.length_map] at hl
  refine ⟨a, rfl, ⟨xs, hs⟩, fun Dl hD => lc_list (xs := xs) (fun i H' => H1 Dl = none ∧ Ex H1 H' ∧ ∃ acc, H' Dl = some (.lst acc) ∧ DpAll K H' acc (((ls.take i).filter f).map out)) ⟨hD, Ex.new hD, [], upd_same, .nil⟩ (fun i H' _ p => ex_l p.2.1 hs) (fun i x H2 hi p => ?_) fun H2 p => ?_⟩
  · obtain ⟨p1, p2, acc, p3, p4⟩ := p
    obtain ⟨d, h1, h2⟩ := dpa_get hx hi
    rw [List.getElem?_map] at h1
    cases hai : ls[i]? with
    | none => rw [hai] at h1; cases h1
    | some b =>
      rw [hai] at h1
      cases h1
      exact lc_turnD (f := f) (enc := enc) ho hz (fun R k => hb b (List.mem_of_getElem? hai) x H2 ((e.trans e1).trans p2) (dp_ex p2 h2) R fun σ2 H3 e3 w a b => k σ2 H3 e3 w a b) hai p1 p2 p3 p4
  · obtain ⟨p1, p2, acc, p3, p4⟩ := p
    rw [hl, List.take_length] at p4
    exact q _ H2 (e1.trans p2) (.lst (sq_of p3) p4)
/-- no test -/
theorem et_yes : EvT tYes σ H true := fun H1 _ _ q => q H1 (Ex.refl H1)
/-! ### loops over data: Pv hangs on the heap at the start -/
theorem s_forTD {tl : TE} (h : EvD K tl σ H (.tuple ds)) (hn : noLs ds = true) (Pv : Hp → Nat → L2.St → Hp → Prop) (h0 : ∀ H1, Ex H H1 → Pv H1 0 σ H1) (ht : ∀ H1 i σ' H', Pv H1 i σ' H' → Tx H1 H')
    (hs : ∀ H1, Ex H H1 → ∀ i d x σ' H', ds[i]? = some d → Dp K H' x d → Pv H1 i σ' H' → g x σ' H' fun σ2 H2 => tu { D with nx := Pv H1 (i + 1), ct := Pv H1 (i + 1), bk := D.nx } σ2 H2)
    (hd : ∀ H1, Ex H H1 → ∀ σ' H', Pv H1 ds.length σ' H' → D.nx σ' H') : tFor (iTup K tl) g tu D σ H := h H (Ex.refl H) _ fun v H1 e1 hv => by
  obtain ⟨a, xs, rfl, hq, hx⟩ := dp_tup hv
  refine ⟨a, rfl, ⟨xs, hq⟩, for_tup (Pv H1) (h0 H1 e1) (fun i σ' H' _ p => tx_t (ht H1 i σ' H' p) hq) (fun i x σ' H' hi p => ?_) fun σ' H' p => ?_⟩
  · obtain ⟨d, h1, h2⟩ := dpa_get hx hi
    have nd : noL d = true := by
      have hm := List.mem_of_getElem? h1
      clear h1 h2
      revert hm hn
      generalize ds = l
      intro hn hm
      induction l with
      | nil => cases hm
      | cons b l ih =>
        have n' : noL b = true ∧ noLs l = true := by simpa [noLs] using hn
        rcases List.mem_cons.mp hm with e | hm
        · rw [e]; exact n'.1
        · exact ih n'.2 hm
    exact hs H1 e1 i d x σ' H' h1 (dp_tx (ht H1 i σ' H' p) nd h2) p
  · rw [dpa_len hx] at p
    exact hd H1 e1 σ' H' p
/-- over a list that stands through the loop -/
theorem s_forLD {tl : TE} (h : EvD K tl σ H (.list ds)) (Pv : Hp → Nat → L2.St → Hp → Prop) (h0 : ∀ H1, Ex H H1 → Pv H1 0 σ H1) (ht : ∀ H1 i σ' H', Pv H1 i σ' H' → Ex H1 H')
    (hs : ∀ H1, Ex H H1 → ∀ i d x σ' H', ds[i]? = some d → Dp K H' x d → Pv H1 i σ' H' → g x σ' H' fun σ2 H2 => tu { D with nx := Pv H1 (i + 1), ct := Pv H1 (i + 1), bk := D.nx } σ2 H2)
    (hd : ∀ H1, Ex H H1 → ∀ σ' H', Pv H1 ds.length σ' H' → D.nx σ' H') : tFor (iList K tl) g tu D σ H := h H (Ex.refl H) _ fun v H1 e1 hv => by
  obtain ⟨a, xs, rfl, hq, hx⟩ := dp_lst hv
  refine ⟨a, rfl, ⟨xs, hq⟩, for_list (Pv H1) (h0 H1 e1) (fun i σ' H' _ p => ex_l (ht H1 i σ' H' p) hq) (fun i x σ' H' hi p => ?_) fun σ' H' p => ?_⟩
  · obtain ⟨d, h1, h2⟩ := dpa_get hx hi
    exact hs H1 e1 i d x σ' H' h1 (dp_ex (ht H1 i σ' H' p) h2) p
  · rw [dpa_len hx] at p
    exact hd H1 e1 σ' H' p
end
end Fell

/-! FR1 -/
set_option Elab.async false
set_option linter.all false
set_option maxRecDepth 100000
set_option maxHeartbeats 4000000
/-! Rules that the layer lacks, 1: enumerate of a tuple, the order of data, sorted of data. -/
namespace Fell
open PySem PySem.Spec PyProof.Rows L2 Evl
open Sem (wp)
/-! ### enumerate(tuple) -/
theorem enum_new1 {v : Value} {o : Obj} {G : Heap → Prop} (B : Begins v o G) :
    Meets (Builtin.«enumerate.__new__» ⟨[.type "enumerate", v], []⟩) (fun _ R s => G s.heap ∧
      R (.ok (.ret (.ref (s.heap.push o).objs.size))) { s with heap := (s.heap.push o).push { cls := .type "enumerate", data := .fields #[.none, .bool false, .ref s.heap.objs.size, rawInt 0, .none, .none] } }) :=
  .of_wp fun prog w A R s h => by
    obtain ⟨hp, g, d, tk, os⟩ := s
    obtain ⟨h1, h⟩ := h
    have hsub := sub_enumerate
    have q1 : ∀ {A' : Around} {E : Value → Shared → Prop} {Q : Value → Shared → Prop}, Q (.ref hp.objs.size) ⟨hp.push o, g, d, tk, os⟩ → wpAny (model prog w) A' (pyIter v) Q E ⟨hp, g, d, tk, os⟩ :=
      fun q => B.iter prog w _ _ ⟨hp, g, d, tk, os⟩ _ h1 q
    wp_walk using q1
    refine wpAny_stack_any fun st => wpAny_pure ?_
    split
    · rename_i c _ _ _ _ _
      cases (c == Value.type "enumerate") <;> (wp_walk using q1; exact ⟨_, rfl, h⟩)
    · wp_walk using q1
      exact ⟨_, rfl, h⟩
theorem call_enum_tuple {prog : Program} {w : World} {A : Around} {E : Value → Shared → Prop} {s : Shared} {a : Addr} {items : Array Value} {Q : Value → Shared → Prop} (ht : s.heap.IsTuple a items)
    (h : ∀ h', IsEnum h' (s.heap.objs.size + 1) s.heap.objs.size 0 .none → h'.IsTupleIter s.heap.objs.size a 0 →
      (∀ b o, s.heap.get? b = some o → h'.get? b = some o) → Q (.ref (s.heap.objs.size + 1)) { s with heap := h' }) :
    wpAny (model prog w) A (call (.type "enumerate") [.ref a]) Q E s := by
  refine callType_new F.called_enumerate (by decide) (F.typeCall_enumerate_1 _) (F.newCall_enumerate_1 _) (fun obj => F.args_object_init_2 obj _) F.entry_enumerate_new (enum_new1 (begins_tuple a items)) ⟨ht, ?_⟩
  have hz : (s.heap.push { cls := .type "tuple_iterator", data := .fields #[.ref a, .int 0 0] }).objs.size = s.heap.objs.size + 1 := Heap.size_push ..
  show _ ∧ _
  rw [hz]
  have he : IsEnum ((s.heap.push { cls := .type "tuple_iterator", data := .fields #[.ref a, .int 0 0] }).push { cls := .type "enumerate", data := .fields #[.none, .bool false, .ref s.heap.objs.size, rawInt 0, .none, .none] }) (s.heap.objs.size + 1) s.heap.objs.size 0 .none := by
    have q := Heap.get?_push_size (s.heap.push { cls := .type "tuple_iterator", data := .fields #[.ref a, .int 0 0] }) (o := { cls := .type "enumerate", data := .fields #[.none, .bool false, .ref s.heap.objs.size, rawInt 0, .none, .none] }) rfl
    rw [hz] at q
    exact q
  exact ⟨⟨_, he, rfl⟩, h _ he ⟨_, Heap.get?_push_of_some _ (Heap.get?_push_size _ rfl), rfl, rfl⟩ fun b o x => Heap.get?_push_of_some _ (Heap.get?_push_of_some _ x)⟩
/-- the tuple at a, each item in a new pair with its place -/
def IteT (K : KK) (a : Addr) : It :=
  ⟨fun i H => ∃ (xs : List V) (x : V), SqT K H a xs ∧ xs[i]? = some x, fun i H v H' => ∃ T x, v = .ref T ∧ H T = none ∧ H' = upd H T (.tup [.int (i : Nat), x]) ∧ ∀ xs, SqT K H a xs → xs[i]? = some x, fun i H => ∃ xs : List V, SqT K H a xs ∧ xs.length ≤ i⟩
theorem turn_enumT {P : Program} {w : World} {K : KK} {elts : List Expr} {kk : Nat} {tpos : Pos} {a e it : Addr} (hea : a ≠ e) (hia : a ≠ it) (hei : e ≠ it) :
    Turn P w K (.Tuple elts kk tpos) (IteT K a) [e, it] e (fun i h => (∃ old, IsEnum h e it ((i : Nat) : Int) old) ∧ h.IsTupleIter it a i) where
  mem := by simp
  obj := fun i h st b hb => by
    obtain ⟨⟨old, he⟩, o, ho, hc, hd⟩ := st
    have e' : b = e ∨ b = it := by simpa using hb
    rcases e' with z | z
    · rw [z]; exact ⟨_, he, fun v q => nomatch q⟩
    · rw [z]; exact ⟨o, ho, fun v q => by rw [hd] at q; cases q⟩
  keep := fun i h h' st k => let ⟨⟨old, he⟩, hi⟩ := st; ⟨⟨old, k e (by simp) _ he⟩, hi.at fun o q => k it (by simp) o q⟩
  item := by
    intro X hP hw hK hc i pins s σ H E I hf st hg
    subst hP hw hK
    obtain ⟨⟨old, he⟩, hit⟩ := st
    obtain ⟨xs, x, hq, hx⟩ := hg
    obtain ⟨its, rv, p, hz⟩ := I.tuple hq
    obtain ⟨u, hu, ru⟩ := rv.get hx
    have hel : e < s.heap.objs.size := Heap.lt_size he
    have hil : it < s.heap.objs.size := by obtain ⟨_, q, _⟩ := hit; exact Heap.lt_size q
    have hlt : i < its.toArray.size := by
      have := (List.getElem?_eq_some_iff.mp hu).1
      simpa using this
    have hh : X.A.in1.handled = none := by simpa using I.ok.hd hc
    have hef : e ∉ [it, a] := by simp [hei, Ne.symm hea]
    refine wpAny_pyNext_enum_itemD (Draws.tuple hh it a hia its.toArray) he ⟨hit, p⟩ hlt hei hef fun y h' tk hy ho st' hT hsz hk => ?_
    have ey : y = u := by
      have : its.toArray[i]? = some u := by simpa using hu
      rw [this] at hy
      exact (Option.some.inj hy).symm
    subst ey
    refine ⟨_, rfl, wpAny_letOwnedTupleGo_enum (s := { s with heap := h', toks := tk + 1 }) ho fun h'' he' sb => ?_⟩
    have hT2 : h''.get? s.heap.objs.size = some { cls := .type "tuple", data := .seq #[.int i tk, y] } := (sb.2 _ (Nat.ne_of_gt hel)).trans hT
    have new : ObjOk X.prog X.w (upd H s.heap.objs.size (.tup [.int (i : Nat), x])) h'' s.heap.objs.size (.tup [.int (i : Nat), x]) :=
      ⟨by show 2 ≤ sizeLine; decide, [.int i tk, y], .cons ⟨_, rfl⟩ (.cons ru .nil), ⟨_, hT2, rfl, _, rfl⟩⟩
    have I1 : Inv X pins σ (upd H s.heap.objs.size (.tup [.int (i : Nat), x])) { s with heap := h'', toks := tk + 1 } :=
      I.turnedNew (ch := [e, it]) (fun b ob hb q => (sb.2 b (fun z => hb (by simp [z]))).trans (hk b ob (fun z => hb (by simp [z])) (fun z => hb (by simp [z])) q)) hf (Nat.le_refl _) new
    refine ⟨.ref s.heap.objs.size, _, I1, rfl, ⟨_, x, rfl, I.hok.fresh (Nat.le_refl _), rfl, fun ys hy => by rw [I.tuple_inj hy hq]; exact hx⟩, ⟨⟨y, ?_⟩, st'.1.at fun o q => (sb.2 it (Ne.symm hei)).trans q⟩, fun b hb => ?_⟩
    · have e1 : ((i + 1 : Nat) : Int) = (i : Int) + 1 := by omega
      rw [e1]; exact he'
    · have hb' : b < s.heap.objs.size := by
        have e' : b = e ∨ b = it := by simpa using hb
        rcases e' with z | z
        · rw [z]; exact hel
        · rw [z]; exact hil
      rw [upd_ne (Nat.ne_of_lt hb')]
      exact (hf b hb).1
  done := by
    intro X hP hw hK hc i pins s σ H E I hf st hg
    subst hP hw hK
    obtain ⟨⟨old, he⟩, hit⟩ := st
    obtain ⟨xs, hq, hx⟩ := hg
    obtain ⟨its, rv, p, hz⟩ := I.tuple hq
    obtain ⟨f0, f1, f2, f3, f4, f5⟩ := hf it (by simp)
    have hl := rv.length
    have hT : s.TypeIs (.ref e) "enumerate" := ⟨_, he, rfl⟩
    have hh : X.A.in1.handled = none := by simpa using I.ok.hd hc
    unfold pyNext
    refine wpAny_bind (wpAny_attempt (wpAny_callSpecial?_slot (name := Str.ofString "__next__") hT F.slot_enumerate_next (wpAny_call_entry F.slot_enumerate_next hT F.entry_enumerate_next ?_ (F.args_enumerate_next_1 _))))
    show wpAny _ _ (field (.ref e) 2 >>= _) _ _ _
    refine wpAny_bind (wpAny_field he rfl (x := .ref it) rfl ?_)
    refine wpAny_bind (wpAny_nextOf_tuple_end hh hit p (by simp; omega) fun h' x he' hx' => ?_)
    obtain ⟨o, ho, hc⟩ := hx'
    refine wpAny_bind (wpAny_isInstance (T := "StopIteration") (b := true) ⟨o, ho, hc⟩ isSubtype_stop ?_)
    exact wpAny_pure ⟨rfl, I.turned (t' := s.toks) (fun b o hb q => he' b o hb q) f0 f1 f3 f4 f5⟩
  self := fun A i s Q E st h => let ⟨⟨_, he⟩, _⟩ := st; wpAny_pyIter_enum he h
def iEnumT (K : KK) (ta : TA) : TI := fun σ H R => ta σ H fun vs H1 => ∃ a xs, vs = [.ref a] ∧ SqT K H1 a xs ∧ R (IteT K a) H1
theorem pi_enumT {X : Cx} {e : Expr} {ta : TA} {p pos tpos : Pos} {elts : List Expr} {kk : Nat} (hg : Gl X "enumerate") (hm : X.mg "enumerate" = none) (ha : PA X [e] ta) (hs : starEach [e] X.env = [(false, eval e X.env)] := by rfl) :
    PI X (.Tuple elts kk tpos) (.Call (.Name "enumerate" p) [e] [] pos) (iEnumT X.K ta) := by
  refine ⟨fun pins s σ H R I h => ?_⟩
  refine Call_ (ld_blt I hg hm boot_enumerate (PyProof.Rows.callWith_type1 (thn (ha.run pos pins s σ H _ I h) fun us s1 ⟨vs, H1, I1, r1, q1⟩ => ?_) hs rfl))
  obtain ⟨a, xs, ex, hq, q⟩ := q1
  subst ex
  cases r1 with
  | cons r rr =>
    cases rr
    cases r
    obtain ⟨its, rv, p', hz⟩ := I1.tuple hq
    have hal : a < s1.heap.objs.size := by obtain ⟨o, ho, _⟩ := id p'; exact Heap.lt_size ho
    refine call_enum_tuple (show s1.heap.IsTuple a its.toArray from p') fun h' he hit hk => wpAny_pyIter_enum he ?_
    have I2 : Inv X pins σ H1 { s1 with heap := h' } := I1.kept (t' := s1.toks) hk
    refine ⟨s1.heap.objs.size + 1, [s1.heap.objs.size + 1, s1.heap.objs.size], _, _, H1, rfl, I2, turn_enumT (Nat.ne_of_lt (Nat.lt_succ_of_lt hal)) (Nat.ne_of_lt hal) (Nat.succ_ne_self _), ⟨⟨.none, he⟩, hit⟩, fun b hb => ?_, q⟩
    have e' : b = s1.heap.objs.size + 1 ∨ b = s1.heap.objs.size := by simpa using hb
    have hle : s1.heap.objs.size ≤ b := by
      rcases e' with z | z
      · rw [z]; exact Nat.le_add_right _ _
      · rw [z]; exact Nat.le_refl _
    exact I1.fpOk hle (I1.hok.fresh hle)
/-- a loop over enumerate(a tuple): the tuple stands -/
theorem for_enumT {K : KK} {a : Addr} {xs : List V} {g : TG} {tb : TS} {D : Ends} {σ : L2.St} {H : Hp} (Pv : Nat → L2.St → Hp → Prop) (h0 : Pv 0 σ H) (hq : ∀ i σ H, Pv i σ H → SqT K H a xs)
    (hs : ∀ (i : Nat) (x : V) (T : Addr) (σ : L2.St) (H : Hp), xs[i]? = some x → Pv i σ H → H T = none → g (.ref T) σ (upd H T (.tup [.int (i : Nat), x])) fun σ2 H2 => tb { D with nx := Pv (i + 1), ct := Pv (i + 1), bk := D.nx } σ2 H2) (hd : ∀ σ H, Pv xs.length σ H → D.nx σ H) :
    ∃ W : Nat → Nat → L2.St → Hp → Prop, (∃ m, W 0 m σ H) ∧ ∀ i m σ H, W i m σ H →
      ((IteT K a).stop i H ∧ D.nx σ H) ∨ ((IteT K a).go i H ∧ ∃ N : L2.St → Hp → Prop, (∀ σ' H', N σ' H' → ∃ m', m' < m ∧ W (i + 1) m' σ' H') ∧ ∀ v H', (IteT K a).yld i H v H' → g v σ H' fun σ2 H2 => tb { D with nx := N, ct := N, bk := D.nx } σ2 H2) := by
  refine ⟨fun i m σ H => m = xs.length - i ∧ i ≤ xs.length ∧ Pv i σ H, ⟨xs.length, rfl, Nat.zero_le _, h0⟩, ?_⟩
  rintro i m σ H ⟨rfl, hi, p⟩
  have qx := hq i σ H p
  by_cases hlt : i < xs.length
  · have hx : xs[i]? = some xs[i] := List.getElem?_eq_getElem hlt
    refine .inr ⟨⟨xs, _, qx, hx⟩, Pv (i + 1), fun σ' H' p' => ⟨xs.length - (i + 1), by omega, rfl, hlt, p'⟩, fun v H' y => ?_⟩
    obtain ⟨T, x', rfl, hT, rfl, f1⟩ := y
    exact hs i x' T σ H (f1 xs qx) p hT
  · have e : i = xs.length := by omega
    subst e
    exact .inl ⟨⟨xs, qx, Nat.le_refl _⟩, hd σ H p⟩
/-- a loop over enumerate(a list): the list stands -/
theorem for_enumL {K : KK} {a : Addr} {xs : List V} {g : TG} {tb : TS} {D : Ends} {σ : L2.St} {H : Hp} (Pv : Nat → L2.St → Hp → Prop) (h0 : Pv 0 σ H) (hq : ∀ i σ H, Pv i σ H → SqL K H a xs)
    (hs : ∀ (i : Nat) (x : V) (T : Addr) (σ : L2.St) (H : Hp), xs[i]? = some x → Pv i σ H → H T = none → g (.ref T) σ (upd H T (.tup [.int (i : Nat), x])) fun σ2 H2 => tb { D with nx := Pv (i + 1), ct := Pv (i + 1), bk := D.nx } σ2 H2) (hd : ∀ σ H, Pv xs.length σ H → D.nx σ H) :
    ∃ W : Nat → Nat → L2.St → Hp → Prop, (∃ m, W 0 m σ H) ∧ ∀ i m σ H, W i m σ H →
      ((Ite K a).stop i H ∧ D.nx σ H) ∨ ((Ite K a).go i H ∧ ∃ N : L2.St → Hp → Prop, (∀ σ' H', N σ' H' → ∃ m', m' < m ∧ W (i + 1) m' σ' H') ∧ ∀ v H', (Ite K a).yld i H v H' → g v σ H' fun σ2 H2 => tb { D with nx := N, ct := N, bk := D.nx } σ2 H2) := by
  refine ⟨fun i m σ H => m = xs.length - i ∧ i ≤ xs.length ∧ Pv i σ H, ⟨xs.length, rfl, Nat.zero_le _, h0⟩, ?_⟩
  rintro i m σ H ⟨rfl, hi, p⟩
  have qx := hq i σ H p
  by_cases hlt : i < xs.length
  · have hx : xs[i]? = some xs[i] := List.getElem?_eq_getElem hlt
    refine .inr ⟨⟨xs, _, qx, hx⟩, Pv (i + 1), fun σ' H' p' => ⟨xs.length - (i + 1), by omega, rfl, hlt, p'⟩, fun v H' y => ?_⟩
    obtain ⟨T, x', rfl, hT, rfl, f1⟩ := y
    exact hs i x' T σ H (f1 xs qx) p hT
  · have e : i = xs.length := by omega
    subst e
    exact .inl ⟨⟨xs, qx, Nat.le_refl _⟩, hd σ H p⟩
/-- a loop over zip of two tuples that stand: as many turns as the shorter has items -/
theorem for_zipU {K : KK} {a b : Addr} {xs ys : List V} {g : TG} {tb : TS} {D : Ends} {σ : L2.St} {H : Hp} (Pv : Nat → L2.St → Hp → Prop) (h0 : Pv 0 σ H) (hq : ∀ i σ H, Pv i σ H → SqT K H a xs ∧ SqT K H b ys)
    (hs : ∀ (i : Nat) (x y : V) (T : Addr) (σ : L2.St) (H : Hp), xs[i]? = some x → ys[i]? = some y → Pv i σ H → H T = none → g (.ref T) σ (upd H T (.tup [x, y])) fun σ2 H2 => tb { D with nx := Pv (i + 1), ct := Pv (i + 1), bk := D.nx } σ2 H2) (hd : ∀ σ H, Pv (min xs.length ys.length) σ H → D.nx σ H) :
    ∃ W : Nat → Nat → L2.St → Hp → Prop, (∃ m, W 0 m σ H) ∧ ∀ i m σ H, W i m σ H →
      ((RZ.ItzT K a b).stop i H ∧ D.nx σ H) ∨ ((RZ.ItzT K a b).go i H ∧ ∃ N : L2.St → Hp → Prop, (∀ σ' H', N σ' H' → ∃ m', m' < m ∧ W (i + 1) m' σ' H') ∧ ∀ v H', (RZ.ItzT K a b).yld i H v H' → g v σ H' fun σ2 H2 => tb { D with nx := N, ct := N, bk := D.nx } σ2 H2) := by
  refine ⟨fun i m σ H => m = min xs.length ys.length - i ∧ i ≤ min xs.length ys.length ∧ Pv i σ H, ⟨_, rfl, Nat.zero_le _, h0⟩, ?_⟩
  rintro i m σ H ⟨rfl, hi, p⟩
  obtain ⟨qx, qy⟩ := hq i σ H p
  by_cases hlt : i < min xs.length ys.length
  · have l1 : i < xs.length := by omega
    have l2 : i < ys.length := by omega
    refine .inr ⟨⟨xs, ys, _, _, qx, qy, List.getElem?_eq_getElem l1, List.getElem?_eq_getElem l2⟩, Pv (i + 1), fun σ' H' p' => ⟨min xs.length ys.length - (i + 1), by omega, rfl, hlt, p'⟩, fun v H' y => ?_⟩
    obtain ⟨T, x', y', rfl, hT, rfl, f1, f2⟩ := y
    exact hs i x' y' T σ H (f1 xs qx) (f2 ys qy) p hT
  · have e : i = min xs.length ys.length := by omega
    subst e
    exact .inl ⟨⟨xs, ys, qx, qy, by omega⟩, hd σ H p⟩

/-! ### the order of data -/
section
variable {X : Cx}
def rLtD (K : KK) : R2 := fun x y H Q => ∃ d e, Dp K H x d ∧ Dp K H y e ∧ PySem.W.alike d e = true ∧ d ≠ .none ∧ d.depth ≤ 64 ∧ Q (.bl (PySem.W.dataLt d e)) H
theorem op_ltD (hu : X.A.units + 64 < cLine) : OpR X (compareOp .Lt) (rLtD X.K) := by
  intro pins s σ H x y v u Q I rx ry h
  obtain ⟨d, e, hd, he, ha, hn, hz, q⟩ := h
  obtain ⟨as, r1⟩ := Dp.reads I d x v hd rx
  obtain ⟨bs, r2⟩ := Dp.reads I e y u he ry
  exact PySem.W.lt_data r1 r2 ha hn (by have := Nat.min_le_left d.depth e.depth; omega) ⟨.bl _, H, I, rfl, q⟩
end
end Fell

/-! FR2 -/
set_option Elab.async false
set_option linter.all false
set_option maxRecDepth 100000
set_option maxHeartbeats 4000000
/-! Rules that the layer lacks, 2: a set made of a list of texts, its members sorted; sorted of a list of data. -/
namespace Fell
open PySem PySem.Spec PyProof.Rows L2 Evl
section
variable {P : Program} {w : World} {h h' : Heap} {a : Addr} {S : Str → Bool} {n : Nat}
/-- at a a set of texts: S its members, at most n; its table can be walked -/
def TextSet (P : Program) (w : World) (h : Heap) (a : Addr) (S : Str → Bool) (n : Nat) : Prop :=
  ∃ o es ep t, h.get? a = some o ∧ o.ExactSet ∧ o.data = .set es ep t ∧ ElemsOf (strKind P w) es.toList ∧ (∀ k, S k = true ↔ ∃ e ∈ es.toList, (strKind P w).is k e.2 = true) ∧
    es.size ≤ n ∧ t.fits es.size = true ∧ Ris t.place.toList ∧ (w.params.followText "set-order" = true ∨ t.led = true)
theorem TextSet.stay (R : TextSet P w h a S n) (k : ∀ o, h.get? a = some o → h'.get? a = some o) : TextSet P w h' a S n :=
  let ⟨o, es, ep, t, ho, r⟩ := R; ⟨o, es, ep, t, k o ho, r⟩
theorem TextSet.as {S' : Str → Bool} (R : TextSet P w h a S n) (e : ∀ k, S' k = S k) : TextSet P w h a S' n := by
  rw [show S' = S from funext e]
  exact R
theorem few_scan {n m : Nat} (h : n ≤ m) (l : m ≤ 1000) : n < scanBound := Nat.lt_of_le_of_lt (Nat.le_trans h l) (by decide)
end
section
variable {P : Program} {w : World} {A : Around} {E : Value → Shared → Prop} {s : Shared} {a : Addr} {S : Str → Bool} {n : Nat}
/-- behind the place that was found: the entries are laid, the table perhaps laid anew -/
theorem text_lay {g : Bool → Sem Unit} (hg : ∀ (b : Bool) (s₁ : Shared) (Q' : Unit → Shared → Prop), Q' () s₁ → wpAny (model P w) A (g b) Q' E s₁)
    {o : Obj} {es xs : Array (Int × Value)} {ep : Nat} {t u : SetTable} (ho : s.heap.get? a = some o) (hex : o.ExactSet) (hd : o.data = .set es ep t)
    (el : ElemsOf (strKind P w) xs.toList) (mem : ∀ k, S k = true ↔ ∃ e ∈ xs.toList, (strKind P w).is k e.2 = true) (few : xs.size ≤ n) (hn : n ≤ 1000) (fit : u.fits xs.size = true) (ris : Ris u.place.toList)
    (led : w.params.followText "set-order" = true ∨ u.led = true) {dm : Bool} {R : Option Bool → Shared → Prop} (hR : ∀ h', Heap.SameBut a s.heap h' → TextSet P w h' a S n → R (some true) { s with heap := h' }) :
    wpAny (model P w) A (do
        storeSet a xs u
        if (!dm && u.tooFull) = true then do
            g (relayAll u xs (SetTable.grown xs.size)).2.2
            storeSet a (relayAll u xs (SetTable.grown xs.size)).1 (relayAll u xs (SetTable.grown xs.size)).2.1
            pure (some true)
          else pure (some true)) R E s := by
  have b1 : xs.size < scanBound := few_scan few hn
  refine wpAny_bind (wpAny_storeSet_of ho hd ?_ (fits_of_scanBound b1))
  have o1 := store_at (es' := xs) (t' := u) ho hd
  have same1 := Heap.SameBut.update s.heap a (Obj.putSet xs u)
  split
  · have pm := relayAll_perm u xs (SetTable.grown xs.size)
    have f3 := relayAll_fits u xs (SetTable.grown xs.size)
    have r3 := relayAll_ris u xs (SetTable.grown xs.size)
    have l3 := relayAll_led u xs (SetTable.grown xs.size)
    generalize relayAll u xs (SetTable.grown xs.size) = Z at pm f3 r3 l3 ⊢
    obtain ⟨ys, v, gave⟩ := Z
    dsimp only at pm f3 r3 l3 ⊢
    have sz : ys.size = xs.size := by rw [← Array.length_toList, pm.length_eq, Array.length_toList]
    refine wpAny_bind (hg _ _ _ (wpAny_bind (wpAny_storeSet_of o1 rfl ?_ (fits_of_scanBound (by rw [sz]; exact b1)))))
    have o2 := store_at (es' := ys) (t' := v) o1 rfl
    refine wpAny_pure (hR _ (same1.trans (Heap.SameBut.update _ a _)) ⟨_, ys, _, v, o2, hex, rfl, el.perm pm, fun k => (mem k).trans ?_, by rw [sz]; exact few, f3, r3, led.imp id fun z => by rw [l3]; exact z⟩)
    exact ⟨fun ⟨e, he, q⟩ => ⟨e, pm.mem_iff.mpr he, q⟩, fun ⟨e, he, q⟩ => ⟨e, pm.mem_iff.mp he, q⟩⟩
  · exact wpAny_pure (hR _ same1 ⟨_, xs, _, u, o1, hex, rfl, el, mem, few, fit, ris, led⟩)
/-- one text is put in -/
theorem text_put {k : Str} {tk : Tok} {Q : Bool → Shared → Prop} (R : TextSet P w s.heap a S n) (hn : n + 1 ≤ 1000)
    (hQ : ∀ b h', Heap.SameBut a s.heap h' → TextSet P w h' a (fun j => S j || decide (j = k)) (n + 1) → Q b { s with heap := h' }) :
    wpAny (model P w) A (setAddHashed a (.str k tk) ((strKind P w).hash k)) Q E s := by
  obtain ⟨o, es, ep, t, ho, hex, hd, el, mem, few, fit, ris, led⟩ := R
  have b0 : es.size < scanBound := few_scan few (by omega)
  have key : (strKind P w).is k (.str k tk) = true := strKind_is P w k tk
  have sc : (Value.str k tk).scannable = true := rfl
  unfold setAddHashed setAddHashedIn
  refine wpAny_holding (wpAny_bind (wpAny_setState_of ho hd fit ?_))
  dsimp only
  rw [byScan_of sc b0 el]
  simp only [↓reduceIte]
  unfold setAddByScan
  refine wpAny_bind (wpAny_bind (wpAny_rule (wpAny_bind (wpAny_setScan_of key ho hd fit el ?_))))
  cases hf : List.findIdx? (fun e => (strKind P w).is k e.2) es.toList with
  | some j =>
    dsimp only
    obtain ⟨hj, pj, _⟩ := List.findIdx?_eq_some_iff_getElem.mp hf
    have hSk : S k = true := (mem k).2 ⟨es.toList[j], List.getElem_mem hj, pj⟩
    refine wpAny_pure (wpAny_pure (hQ _ s.heap (Heap.SameBut.refl a s.heap) ⟨o, es, ep, t, ho, hex, hd, el, fun i => ?_, by omega, fit, ris, led⟩))
    rw [Bool.or_eq_true, decide_eq_true_eq, ← mem i]
    exact ⟨fun z => z.elim id fun e => e ▸ hSk, .inl⟩
  | none =>
    dsimp only
    have gw : ∀ (b : Bool) {s₁ : Shared} {Q' : Unit → Shared → Prop}, Q' () s₁ → wpAny (model P w) A (match b with | true => rule "set.scan.the-table-gave-way" | false => pure ()) Q' E s₁ :=
      fun b s₁ Q' q => by cases b <;> first | exact wpAny_pure q | exact wpAny_rule q
    have pm := layNew_perm t es ((strKind P w).hash k) (.str k tk)
    have f1 := layNew_fits t es ((strKind P w).hash k) (.str k tk)
    have r1 := layNew_ris t es ((strKind P w).hash k) (.str k tk) ris
    have l1 := layNew_led t es ((strKind P w).hash k) (.str k tk)
    generalize layNew t es ((strKind P w).hash k) (.str k tk) = Z at pm f1 r1 l1 ⊢
    obtain ⟨xs, u, dm, gave⟩ := Z
    dsimp only at pm f1 r1 l1 ⊢
    rw [Array.toList_push] at pm
    have el1 : ElemsOf (strKind P w) xs.toList := (el.push key sc).perm pm
    have mem1 : ∀ i, (S i || decide (i = k)) = true ↔ ∃ e ∈ xs.toList, (strKind P w).is i e.2 = true := mem_push_iff key mem pm
    have few1 : xs.size ≤ n + 1 := by
      rw [← Array.length_toList, pm.length_eq, List.length_append, Array.length_toList]
      show es.size + 1 ≤ n + 1
      omega
    have led1 : w.params.followText "set-order" = true ∨ u.led = true := led.imp id fun z => by rw [l1]; exact z
    refine wpAny_bind (gw _ ?_)
    split
    · refine wpAny_bind ?_
      rw [hashByValue_scannable 8 sc]
      refine wpAny_pure (text_lay (n := n + 1) ?_ ho hex hd el1 mem1 few1 hn ?_ ?_ ?_ ?_)
      · intro b s₁ Q' q; cases b <;> first | exact wpAny_pure q | exact wpAny_rule q
      · first | (split <;> first | exact f1 | exact SetTable.fits_plain_off f1) | exact f1
      · first | (split <;> exact r1) | exact r1
      · first | (split <;> exact led1) | exact led1
      · intro h' sb r; dsimp only; exact wpAny_pure (hQ _ h' sb r)
    · refine wpAny_bind (wpAny_pure ?_)
      simp only [↓reduceIte]
      refine text_lay (n := n + 1) ?_ ho hex hd el1 mem1 few1 hn f1 r1 led1 ?_
      · intro b s₁ Q' q; cases b <;> first | exact wpAny_pure q | exact wpAny_rule q
      · intro h' sb r; dsimp only; exact wpAny_pure (hQ _ h' sb r)
end
section
variable {prog : Program} {w : World} {A : Around} {R : Result → Shared → Prop} {I : Addr} {fp wr : List Addr} {G : Array GenState → Array GenState → Prop} {n : Nat} {Pv : Nat → Value → Prop} {St : Nat → Shared → Prop}
/-- set.update's loop over texts -/
theorem text_loop (W : WalksS prog w A.in1 I fp wr G n Pv St) (a : Addr) (ha : a ∉ fp) (xs : List Str) (hn : n ≤ 900)
    (val : ∀ i v, Pv i v → ∃ t, v = .str (xs.getD i Str.empty) t) (hl : xs.length = n) :
    ∀ (k i : Nat) (s : Shared), n - i = k → i ≤ n → St i s → TextSet prog w s.heap a (fun y => (xs.take i).any (· == y)) i →
      (∀ s', Moved (a :: wr) G s s' → TextSet prog w s'.heap a (fun y => xs.any (· == y)) n → R (.ok (.ret .none)) s') →
      codeAny (model prog w) A (.builtin "set.update.loop" ⟨[.ref a, .ref I], []⟩) R s := by
  have haw : a ∉ wr := fun h => ha (W.sub _ h)
  have sub : ∀ b ∈ wr, b ∈ a :: wr := fun b hb => List.mem_cons_of_mem _ hb
  intro k
  induction k with
  | zero =>
    intro i s hk hi hst hS hR
    obtain rfl : i = n := by omega
    refine codeAny_builtin F.entry_set_update_loop ?_
    rw [Around.under_plainId F.plain_set_update_loop _]
    show wpAny _ A.in1 (pyNext (.ref I) >>= _) _ _ s
    refine wpAny_bind (W.done s _ _ hst fun s' hm => ?_)
    show wpAny _ A.in1 (ret Value.none) _ _ s'
    rw [← hl, List.take_length] at hS
    rw [hl] at hS
    exact wpAny_pure (hR s' (hm.mono sub) (hS.stay fun o e => hm.heap a _ haw e))
  | succ k ih =>
    intro i s hk hi hst hS hR
    have hlt : i < n := by omega
    refine codeAny_builtin F.entry_set_update_loop ?_
    rw [Around.under_plainId F.plain_set_update_loop _]
    show wpAny _ A.in1 (pyNext (.ref I) >>= _) _ _ s
    refine wpAny_bind (W.item i s _ _ hlt hst fun v s' hP hst' hm => ?_)
    obtain ⟨t, rfl⟩ := val i v hP
    have hS' := hS.stay (h' := s'.heap) fun o e => hm.heap a _ haw e
    show wpAny _ A.in1 (holding [Value.str (xs.getD i Str.empty) t] (setAdd a (.str (xs.getD i Str.empty) t)) >>= _) _ _ s'
    refine wpAny_bind (wpAny_holding ?_)
    unfold setAdd
    refine wpAny_holding (wpAny_bind ((strKind prog w).pyHash (k := xs.getD i Str.empty) (strKind_is _ _ _ _) ?_))
    refine text_put (s := { s' with toks := s'.toks + 1 }) hS' (by omega) fun b h' sb hS2 => ?_
    have hS3 : TextSet prog w h' a (fun y => (xs.take (i + 1)).any (· == y)) (i + 1) := hS2.as fun y => by
      have hi2 : i < xs.length := by omega
      rw [List.take_add_one, List.getElem?_eq_getElem hi2, List.any_append, List.getD_eq_getElem?_getD, List.getElem?_eq_getElem hi2]
      show (_ || (xs[i] == y || false)) = (_ || decide (y = xs[i]))
      rw [Bool.or_false]
      by_cases e : y = xs[i]
      · subst e; simp
      · have e2 : (xs[i] == y) = false := by simpa using fun q => e q.symm
        rw [e2, decide_eq_false e]
    refine wpAny_pure ⟨plainId_quiet F.plain_set_update_loop _, ih (i + 1) _ (by omega) hlt (W.frame _ s' _ _ hst' (Nat.le_succ _) fun b hb o e => ?_) hS3 fun s'' hm2 hS4 => ?_⟩
    · rw [sb.2 b fun z : b = a => ha (z ▸ hb)]
      exact e
    · refine hR s'' (Moved.trans W.gtrans ((hm.mono sub).then_heap (Nat.le_succ _) fun b o hb e => ?_) hm2) hS4
      rw [sb.2 b fun z : b = a => hb (by rw [z]; exact List.mem_cons_self)]
      exact e
end
abbrev setNew (w : World) : Obj := { cls := .type "set", dict := none, data := .set #[] 0 (.fresh 0 0 (!w.params.followText "set-order")) }
theorem text_fresh {P : Program} {w : World} {h : Heap} {a : Addr} (ho : h.get? a = some (setNew w)) : TextSet P w h a (fun _ => false) 0 :=
  ⟨_, #[], 0, _, ho, ⟨rfl, rfl, rfl⟩, rfl, (fun e he => by simp at he), (fun k => by simp), Nat.le_refl _, by rfl, List.Pairwise.nil, by
    show _ ∨ (!w.params.followText "set-order") = true
    cases w.params.followText "set-order"
    · exact .inr rfl
    · exact .inl rfl⟩
section
variable {prog : Program} {w : World} {A : Around} {E : Value → Shared → Prop} {s : Shared}
set_option maxHeartbeats 3200000 in
theorem call_set_texts {l : Addr} {items : Array Value} {xs : List Str} {Q : Value → Shared → Prop} (hh : A.handled = none) (hl : s.heap.IsList l items) (hi : StrsAre items.toList xs) (few : xs.length ≤ 900)
    (h : ∀ (h' : Heap) (tk : Nat), TextSet prog w h' s.heap.objs.size (fun y => xs.any (· == y)) xs.length → (∀ b o, s.heap.get? b = some o → h'.get? b = some o) → Q (.ref s.heap.objs.size) { s with heap := h', toks := tk }) :
    wpAny (model prog w) A (call (.type "set") [.ref l]) Q E s := by
  have hsz : xs.length = items.size := by rw [← StrsAre.len_eq hi, Array.length_toList]
  obtain ⟨c, tl, hmro⟩ := F.called_set.mro
  have hmade := F.called_set.made
  have hsub := F.called_set.sub
  refine wpAny_call (codeAny_of_tree ?_)
  show wpAny _ _ (callAny (.type "set") _) _ _ _
  refine wpAny_pure ⟨Code.quiet_builtin _ (by decide +kernel), codeAny_builtin F.entry_type_call ?_⟩
  rw [Around.under_plain (weight_type_call_type "set" [.ref l] []) rfl]
  have h1 := F.called_set.notType
  have h2 := F.called_set.canCreate
  have hct := F.typeCall_set_1 (.ref l)
  repeat (any_goals (first | assumption | wp_step))
  refine codeAny_mono (code_set_led1 (.ref l) (E := E) (Q₁ := fun obj s₁ => obj = .ref s.heap.objs.size ∧ s₁ = { s with heap := s.heap.push (setNew w) }) ⟨rfl, rfl⟩) fun r s₁ hr => ?_
  cases r with
  | error e => exact hr
  | ok fl =>
    cases fl with
    | ret obj =>
      obtain ⟨rfl, rfl⟩ := hr
      have hS : (s.heap.push (setNew w)).get? s.heap.objs.size = some (setNew w) := Heap.get?_push_size _ rfl
      have hT : Shared.TypeIs { s with heap := s.heap.push (setNew w) } (.ref s.heap.objs.size) "set" := ⟨_, hS, rfl⟩
      have hli := F.called_set.init.lookup
      have hbi := F.called_set.init.bind (.ref s.heap.objs.size)
      repeat (any_goals (first | assumption | wp_step))
      refine codeAny_mono (codeAny_call_builtin (R := wants (fun r s₂ => r = .none ∧ ∃ h' tk, s₂ = { s with heap := h', toks := tk } ∧ TextSet prog w h' s.heap.objs.size (fun y => xs.any (· == y)) xs.length ∧
          (∀ b o, s.heap.get? b = some o → h'.get? b = some o)) E) F.called_set.init.plain F.entry_set_init (check_set_init_1 hT ?_)) fun r₂ s₂ hr₂ => ?_
      · obtain ⟨ol, hol, hcl, nl, hdl⟩ := hl
        obtain ⟨ocls, odict, odata, oslots⟩ := ol
        simp only at hcl hdl
        subst hcl
        subst hdl
        have hol' : (s.heap.push (setNew w)).get? l = some { cls := .type "list", dict := odict, data := .seq items nl, slots := oslots } := Heap.get?_push_of_some _ hol
        have hsls := F.sub_list_set
        have hslf := F.sub_list_frozenset
        have hne : (Value.type "list" == Value.type "dict") = false := by decide
        have hl1 : (s.heap.push (setNew w)).IsList l items := ⟨_, hol', rfl, nl, rfl⟩
        unfold Builtin.«set.__init__» noKeywords Builtin.Frozenset.updateFrom
        generalize hPI : pyIter = PI
        wp_walk
        subst hPI
        refine wpAny_pyIter_list hl1 (wpAny_bind (wpAny_runValue ?_))
        have hlS : l < s.heap.objs.size := Heap.lt_size hol
        have hh3 : A.in1.in1.in1.handled = none := by simp [hh]
        have hneI : l ≠ (s.heap.push (setNew w)).objs.size := by
          rw [Heap.size_push]
          exact Nat.ne_of_lt (Nat.lt_succ_of_lt hlS)
        have hSf : s.heap.objs.size ∉ [(s.heap.push (setNew w)).objs.size, l] := by
          rw [Heap.size_push]
          simp only [List.mem_cons, List.not_mem_nil, or_false, not_or]
          exact ⟨Nat.ne_of_lt (Nat.lt_succ_self _), Nat.ne_of_gt hlS⟩
        have hval : ∀ (i : Nat) (v : Value), items[i]? = some v → ∃ t, v = .str (xs.getD i Str.empty) t := fun i v hv => SS.strs_at hi i v (by rw [Array.getElem?_toList]; exact hv)
        refine text_loop ((Walks.list hh3 _ l hneI items).toS) s.heap.objs.size hSf xs (by rw [← hsz]; exact few) hval hsz (items.size - 0) 0 _ (by omega) (Nat.zero_le _)
          ⟨⟨_, Heap.get?_push_size _ rfl, rfl, rfl⟩, (hl1.push _)⟩ (text_fresh (Heap.get?_push_of_some _ hS)) ?hR
        case hR =>
          intro s' hm hS'
          obtain ⟨h', g2, d', tk', os'⟩ := s'
          have eg : g2 = s.gens := hm.gens
          have ed : d' = s.drawn := hm.drawn
          have eo : os' = s.os := hm.os
          subst eg
          subst ed
          subst eo
          refine wpAny_pure ?_
          show wpAny _ _ (ret Value.none) _ _ _
          refine wpAny_pure ⟨rfl, h', tk', rfl, by rw [hsz]; exact hS', fun b o e => ?_⟩
          have hb := Heap.lt_size e
          refine hm.heap b o (fun z => ?_) (Heap.get?_push_of_some _ (Heap.get?_push_of_some _ e))
          rcases List.mem_cons.mp z with z | z
          · exact absurd hb (by rw [z]; exact Nat.lt_irrefl _)
          · have z := List.mem_singleton.mp z
            rw [Heap.size_push] at z
            exact absurd hb (by rw [z]; exact Nat.not_lt_of_le (Nat.le_succ _))
      · cases r₂ with
        | error e => exact hr₂
        | ok fl₂ =>
          cases fl₂ with
          | ret r =>
            obtain ⟨rfl, h', tk, rfl, hS', hk'⟩ := hr₂
            repeat (any_goals (first | assumption | wp_step))
            exact h _ _ hS' hk'
          | _ => exact hr₂.elim
    | _ => exact hr.elim
end

/-! ### sorted of a set of texts -/
theorem strs_of {w : World} {prog : Program} : ∀ (l : List Value), (∀ v ∈ l, ∃ k, (strKind prog w).is k v = true) → ∃ xs : List Str, StrsAre l xs
  | [], _ => ⟨[], .nil⟩
  | v :: l, h => by
    obtain ⟨k, hk⟩ := h v List.mem_cons_self
    obtain ⟨t, rfl⟩ := Value.isStrOf_shape (x := k) (v := v) hk
    obtain ⟨xs, hx⟩ := strs_of (w := w) (prog := prog) l fun u hu => h u (List.mem_cons_of_mem _ hu)
    exact ⟨k :: xs, .cons k t hx⟩
theorem strs_mem {w : World} {prog : Program} : ∀ {l : List Value} {xs : List Str}, StrsAre l xs → ∀ y, y ∈ xs ↔ ∃ v ∈ l, (strKind prog w).is y v = true
  | _, _, .nil, y => by simp
  | _, _, .cons k t hr, y => by
    have ih := strs_mem (w := w) (prog := prog) hr y
    have e : (strKind prog w).is y (.str k t) = true ↔ k = y := by
      show Value.isStrOf y (.str k t) = true ↔ k = y
      simp [Value.isStrOf]
    simp only [List.mem_cons, ih]
    constructor
    · rintro (q | ⟨v, hv, q⟩)
      · exact ⟨_, .inl rfl, e.mpr q.symm⟩
      · exact ⟨v, .inr hv, q⟩
    · rintro ⟨v, hv, q⟩
      rcases hv with hv | hv
      · subst hv
        exact .inl (e.mp q).symm
      · exact .inr ⟨v, hv, q⟩
end Fell

/-! FR3 -/
set_option Elab.async false
set_option linter.all false
set_option maxRecDepth 100000
set_option maxHeartbeats 4000000
/-! Rules that the layer lacks, 3: by values. -/
namespace Fell
open PySem PySem.Spec PyProof.Rows L2 Evl
section
variable {P : Program} {w : World} {A : Around} {E : Value → Shared → Prop} {s : Shared} {a : Addr} {S : Str → Bool} {n : Nat}
theorem sorted_texts {Q : Value → Shared → Prop} (R : TextSet P w s.heap a S n) (hh : A.handled = none) (h64 : n < 64)
    (hQ : ∀ s' p (out : Array Value) (c : Nat) (ys : List Str), (∀ b o, s.heap.get? b = some o → s'.heap.get? b = some o) → s'.gens = s.gens → s'.os = s.os → s.heap.objs.size ≤ p →
      s'.heap.get? p = some (seqObj "list" out c) → StrsAre out.toList ys → sortedS ys = true → (∀ k, k ∈ ys ↔ S k = true) → ys.length ≤ n → Q (.ref p) s') :
    wpAny (model P w) A (call (.builtin "sorted") [.ref a]) Q E s := by
  obtain ⟨o, es, ep, t, ho, hex, hd, el, mem, few, fit, ris, led⟩ := R
  refine Calls.call_function_entry kind_sorted plain_sorted entry_sorted (args_sorted1 _) ?_
  unfold Builtin.«sorted»
  refine wpAny_bind (m := checkCount "sorted" 1 1 _) (wpAny_pure ?_)
  refine wpAny_bind (collect_set (A := A.in1) hh ⟨o, ho, hex.1, hd⟩ fit (few_scan few (by omega)) ris led fun s1 vs k1 hz g1 o1 pm => ?_)
  have hvl : vs.length ≤ n := by
    rw [pm.length_eq, List.length_map, Array.length_toList]
    exact few
  obtain ⟨xs, hx⟩ := strs_of (w := w) (prog := P) vs fun v hv => by
    obtain ⟨e, he, q⟩ := List.mem_map.mp (pm.mem_iff.mp hv)
    obtain ⟨⟨k, hk, _⟩, _⟩ := el e he
    exact ⟨k, by rw [← q]; exact hk⟩
  have hmem : ∀ k, k ∈ xs ↔ S k = true := fun k => by
    rw [strs_mem (w := w) (prog := P) hx k, mem k]
    constructor
    · rintro ⟨v, hv, q⟩
      obtain ⟨e, he, rfl⟩ := List.mem_map.mp (pm.mem_iff.mp hv)
      exact ⟨e, he, q⟩
    · rintro ⟨e, he, q⟩
      exact ⟨e.2, pm.mem_iff.mpr (List.mem_map.mpr ⟨e, he, rfl⟩), q⟩
  refine wpAny_bind (wpAny_newList ?_ (by rw [sizeLine_eq]; omega))
  have hoL : (s1.heap.push (seqObj "list" vs.toArray 0)).get? s1.heap.objs.size = some (seqObj "list" vs.toArray 0) := Heap.get?_push_size _ rfl
  refine wpAny_bind (wpAny_holding (wpAny_call_entry slot_list_sort ⟨_, hoL, rfl⟩ entry_list_sort (list_sort_treeK strKind_oneLt hoL hx.keysOf (fun v₁ v₂ rest e => keyKind_strs (by rw [← e]; exact hx)) (by omega) fun st' a1 a2 => ⟨_, rfl, ?_⟩) (args_list_sort _)))
  obtain ⟨ys, b1, b2, b3⟩ := sorted_out_str hx a1 a2
  obtain ⟨c, hc⟩ := sortedHeap_at (vs := vs) (out := (arrOf st').map (·.2)) hoL
  refine wpAny_pure ⟨_, rfl, hQ _ s1.heap.objs.size _ c ys (fun b u e => ?_) g1 o1 hz hc b1 b3 (fun k => b2.mem_iff.trans (hmem k)) ?_⟩
  · have q := k1 b u e
    have hlt := Heap.lt_size q
    show (sortedHeap (s1.heap.push (seqObj "list" vs.toArray 0)) s1.heap.objs.size vs _).get? b = some u
    rw [sortedHeap_old (Nat.ne_of_lt hlt) (by rw [size_push']; exact Nat.lt_succ_of_lt hlt)]
    exact Heap.get?_push_of_some _ q
  · rw [b2.length_eq, ← StrsAre.len_eq hx]
    exact hvl
end
def TxO (P : Program) (w : World) (a : Addr) (S : Str → Bool) (n : Nat) : HO := .ext fun h => TextSet P w h a S n
theorem txO_new {P : Program} {w : World} {H : Hp} {h : Heap} {a : Addr} {S : Str → Bool} {n : Nat} (R : TextSet P w h a S n) : ObjOk P w H h a (TxO P w a S n) :=
  ⟨R, let ⟨o, _, _, _, ho, _⟩ := R; ⟨o, ho⟩, fun _ _ z k => z.stay k⟩
section
variable {X : Cx}
/-- set(xs) of a list of texts -/
def rSetX (K : KK) (P : Program) (w : World) : List V → Hp → VK → Prop := fun vs H Q => ∃ (l : Addr) (xs : List Str), vs = [V.ref l] ∧ SqL K H l (xs.map V.str) ∧ xs.length ≤ 900 ∧
  ∀ p, H p = none → Q (.ref p) (upd H p (TxO P w p (fun y => xs.any (· == y)) xs.length))
theorem cr_setX (hc : X.calm = true) : CallR X (.type "set") (rSetX X.K X.prog X.w) := by
  intro pins s σ H vs us Q I r h
  obtain ⟨l, xs, rfl, hl, hf, q⟩ := h
  rw [Vals.ref1 r]
  obtain ⟨its, rv, pl, hz⟩ := I.list hl
  have hn : H s.heap.objs.size = none := I.hok.fresh (Nat.le_refl _)
  refine call_set_texts (prog := X.prog) (w := X.w) (xs := xs) (I.ok.hd hc) pl.isList (by simpa using rv.strs) hf fun h' tk R k => ?_
  exact ⟨.ref s.heap.objs.size, _, I.laid (t' := tk) k (Nat.le_refl _) (txO_new R), rfl, q _ hn⟩
/-- sorted of such a set -/
def rSortX (P : Program) (w : World) : List V → Hp → VK → Prop := fun vs H Q => ∃ (a : Addr) (S : Str → Bool) (n : Nat), vs = [V.ref a] ∧ H a = some (TxO P w a S n) ∧ n < 64 ∧
  ∀ (ys : List Str) (p : Addr), sortedS ys = true → (∀ k, k ∈ ys ↔ S k = true) → ys.length ≤ n → H p = none → Q (.ref p) (upd H p (.lst (ys.map V.str)))
theorem cr_sortX (hc : X.calm = true) : CallR X (.builtin "sorted") (rSortX X.prog X.w) := by
  intro pins s σ H vs us Q I r h
  obtain ⟨a, S, n, rfl, ha, h64, q⟩ := h
  have R : TextSet X.prog X.w s.heap a S n := (I.hok a _ ha).1
  rw [Vals.ref1 r]
  refine sorted_texts R (I.ok.hd hc) h64 fun s' p out c ys k g o hp hg hi hs hm hl => ?_
  have hlen : (ys.map V.str).length ≤ sizeLine := by rw [List.length_map, sizeLine_eq]; omega
  have hn : H p = none := I.hok.fresh hp
  have J : Inv X pins σ (upd H p (.lst (ys.map V.str))) { s with heap := s'.heap, gens := s'.gens, drawn := s'.drawn, toks := s'.toks } :=
    I.call (ch := []) (Un.laid k hp hn) (I.hok.laid k hp ⟨hlen, out.toList, c, vals_of_strs hi, hg⟩) (by rw [g]; exact I.bare) (fun _ z => nomatch z)
  have e : s' = { s with heap := s'.heap, gens := s'.gens, drawn := s'.drawn, toks := s'.toks } := by
    cases s'
    cases s
    cases o
    rfl
  rw [e]
  exact ⟨.ref p, _, J, rfl, q ys p hs hm hl hn⟩

/-! ### d.keys(), sorted of it -/
def KeysO (p d : Addr) : HO := .ext fun h => PySem.W.KdlKeysView h p d
theorem keysO_new {P : Program} {w : World} {H : Hp} {h : Heap} {p d : Addr} (R : PySem.W.KdlKeysView h p d) : ObjOk P w H h p (KeysO p d) :=
  ⟨R, let ⟨o, ho, _⟩ := R; ⟨o, ho⟩, fun _ _ z k => let ⟨o, ho, r⟩ := z; ⟨o, k o ho, r⟩⟩
def rKeysV : V → List V → Hp → VK → Prop := fun x vs H Q => ∃ (d : Addr) (kvs : List (Key × V)), x = .ref d ∧ vs = [] ∧ H d = some (.dK kvs) ∧ ∀ p, H p = none → Q (.ref p) (upd H p (KeysO p d))
theorem mt_keysV : MtR X "dict.keys" rKeysV := by
  intro pins s σ H x vs v us Q I rx rv h
  obtain ⟨d, kvs, rfl, rfl, hd, q⟩ := h
  obtain rfl : v = Value.ref d := rx
  have hus := rv.zero
  subst hus
  obtain ⟨_, lo, vv, _, dd⟩ := dk_of I.hok hd
  refine wpAny_call_entry F.slot_dict_keys dd.typeIs F.entry_dict_keys ?_ (F.args_dict_keys_1 _)
  refine wpAny_bind ?_
  unfold Builtin.Dict.noArgs
  refine wpAny_bind (wpAny_notOrdered_dict dd.typeIs ?_)
  show wpAny _ _ (pure d) _ _ s
  refine wpAny_pure ?_
  show wpAny _ _ (Builtin.Dict.showsAll d >>= _) _ _ s
  unfold Builtin.Dict.showsAll
  rw [if_neg (by rw [lo]; exact Bool.false_ne_true)]
  refine wpAny_bind (wpAny_pure (wpAny_bind (wpAny_newObj_type (wpAny_pure ⟨_, rfl, ?_⟩))))
  have hn : H s.heap.objs.size = none := I.hok.fresh (Nat.le_refl _)
  exact ⟨.ref s.heap.objs.size, _, I.laid (t' := s.toks) (fun b u e => Heap.get?_push_of_some _ e) (Nat.le_refl _) (keysO_new ⟨_, Heap.get?_push_size _ rfl, rfl, rfl⟩), rfl, q _ hn⟩
def rSortV : List V → Hp → VK → Prop := fun xs H Q => ∃ (p a : Addr) (kvs : List (Key × V)) (ks : List Str), xs = [.ref p] ∧ H p = some (KeysO p a) ∧ H a = some (.dK kvs) ∧ kvs.map (·.1) = ks.map Sum.inr ∧ ks.length < 64 ∧
  ∀ ys p, ys.Perm ks → sortedS ys = true → H p = none → Q (.ref p) (upd H p (.lst (ys.map V.str)))
theorem cr_sortV (hc : X.calm = true) : CallR X (.builtin "sorted") rSortV := by
  intro pins s σ H xs us Q I r h
  obtain ⟨p, a, kvs, ks, rfl, hp, ha, hks, h64, q⟩ := h
  have Kv : PySem.W.KdlKeysView s.heap p a := (I.hok p _ hp).1
  rw [Vals.ref1 r]
  obtain ⟨z, lo, vs, rel, dd⟩ := dk_of I.hok ha
  obtain ⟨ep, hat⟩ := dd.dictAt
  have hkeys : vs.map (·.1) = ks.map Sum.inr := rel.keys.symm.trans hks
  have hl : vs.length = ks.length := by
    have e := congrArg List.length hkeys
    rw [List.length_map, List.length_map] at e
    exact e
  refine Calls.call_function_entry kind_sorted plain_sorted entry_sorted (args_sorted1 _) ?_
  unfold Builtin.«sorted»
  refine wpAny_bind (m := checkCount "sorted" 1 1 _) (wpAny_pure ?_)
  refine wpAny_bind (PySem.W.kdu_collect (A := X.A.in1) (PySem.W.kdl_keys (knd := mixKind X.prog X.w) (kvs := vs) (ep := ep)) (I.ok.hd hc) ⟨Kv, hat⟩ (by rw [hl, sizeLine_eq]; omega) fun h' tk acc hk hacc => ?_)
  have hal : acc.toList.length = ks.length := by rw [Array.length_toList, hacc.1, hl]
  have hS : StrsAre acc.toList ks := strs_at hal fun j v e => by
    obtain ⟨k, x, e1, e2⟩ := hacc.2 j v (by rw [← Array.getElem?_toList]; exact e)
    have e3 : (vs.map (·.1))[j]? = some k := by rw [List.getElem?_map, e1]; all_goals rfl
    rw [hkeys, List.getElem?_map] at e3
    cases e4 : ks[j]? with
    | none => rw [e4] at e3; cases e3
    | some y =>
      rw [e4] at e3
      have e5 : Sum.inr y = k := Option.some.inj e3
      subst e5
      obtain ⟨t, ev⟩ := Value.isStrOf_shape (x := y) (v := v) e2
      exact ⟨y, t, rfl, ev⟩
  refine wpAny_bind (wpAny_newList ?_ (by rw [hal, sizeLine_eq]; omega))
  have hoL : (h'.push (seqObj "list" acc.toList.toArray 0)).get? h'.objs.size = some (seqObj "list" acc.toList.toArray 0) := Heap.get?_push_size _ rfl
  refine wpAny_bind (wpAny_holding (wpAny_call_entry slot_list_sort ⟨_, hoL, rfl⟩ entry_list_sort (list_sort_treeK strKind_oneLt hoL hS.keysOf (fun v₁ v₂ rest e => keyKind_strs (by rw [← e]; exact hS)) (by omega) fun st' a1 a2 => ⟨_, rfl, ?_⟩) (args_list_sort _)))
  obtain ⟨ys, b1, b2, b3⟩ := sorted_out_str hS a1 a2
  obtain ⟨c, hcc⟩ := sortedHeap_at (vs := acc.toList) (out := (arrOf st').map (·.2)) hoL
  have I1 : Inv X pins σ H { s with heap := h', toks := tk } := I.kept hk
  have hlen : (ys.map V.str).length ≤ sizeLine := by rw [List.length_map, b2.length_eq, sizeLine_eq]; omega
  refine wpAny_pure ⟨_, rfl, .ref h'.objs.size, upd H h'.objs.size (.lst (ys.map V.str)), I1.laid (t' := tk) (fun b u e => ?_) (Nat.le_refl _)
    (show ObjOk X.prog X.w _ _ _ (.lst (ys.map V.str)) from ⟨hlen, ((arrOf st').map (·.2)).toList, c, vals_of_strs b1, by rw [Array.toArray_toList]; exact hcc⟩), rfl, q ys _ b2 b3 (I1.hok.fresh (Nat.le_refl _))⟩
  have hlt : b < h'.objs.size := Heap.lt_size e
  rw [sortedHeap_old (Nat.ne_of_lt hlt) (by rw [size_push']; exact Nat.lt_succ_of_lt hlt)]
  exact Heap.get?_push_of_some _ e

/-! ### sorted of data -/
/-- the rows of a grove -/
def rSortG (K : KK) : List V → Hp → VK → Prop := fun vs H Q => ∃ (a : Addr) (xs : List V) (ls : List (Grv.Tree × Int)), vs = [V.ref a] ∧ SqL K H a xs ∧ DpAll K H xs (ls.map Grv.prD) ∧ ls.length ≤ 1000 ∧ (∀ p ∈ ls, (Grv.prD p).depth ≤ 60) ∧
  ∀ (ys : List V) (zs : List (Grv.Tree × Int)) (p : Addr), zs.Perm ls → zs = ls.mergeSort (fun a b => !PySem.W.dataLt (Grv.prD b) (Grv.prD a)) → DpAll K H ys (zs.map Grv.prD) → H p = none → Q (.ref p) (upd H p (.lst ys))
theorem each_zip {K : KK} {H : Hp} : ∀ {xs : List V} {us : List Value} {ls : List (Grv.Tree × Int)}, Vals xs us → DpAll K H xs (ls.map Grv.prD) → PySem.W.EachIs (fun u b => RelV b.1 u ∧ Dp K H b.1 (Grv.prD b.2)) us (xs.zip ls)
  | _, _, [], r, h => by cases h; cases r; exact .nil
  | _, _, l :: ls, r, h => by
    cases h with
    | cons h1 h2 =>
      cases r with
      | cons r1 r2 => exact .cons ⟨r1, h1⟩ (each_zip r2 h2)
theorem each_unzip {K : KK} {H : Hp} : ∀ {us : List Value} {bs : List (V × (Grv.Tree × Int))}, PySem.W.EachIs (fun u b => RelV b.1 u ∧ Dp K H b.1 (Grv.prD b.2)) us bs → Vals (bs.map (·.1)) us ∧ DpAll K H (bs.map (·.1)) ((bs.map (·.2)).map Grv.prD)
  | _, _, .nil => ⟨.nil, .nil⟩
  | _, _, .cons h t => let ⟨a, b⟩ := each_unzip t; ⟨.cons h.1 a, .cons h.2 b⟩
theorem zip_snd {α β : Type} : ∀ {xs : List α} {ys : List β}, xs.length = ys.length → (xs.zip ys).map (·.2) = ys
  | [], [], _ => rfl
  | x :: xs, y :: ys, h => by
    rw [List.zip_cons_cons, List.map_cons, zip_snd (by simpa using h)]
theorem cr_sortG (hu : X.A.units + 64 < cLine) : CallR X (.builtin "sorted") (rSortG X.K) := by
  intro pins s σ H vs us Q I r h
  obtain ⟨a, xs, ls, rfl, hs, hx, hl, hdep, q⟩ := h
  obtain ⟨its, rv, pl, hz⟩ := I.list hs
  rw [Vals.ref1 r]
  have hlen : xs.length = ls.length := by rw [dpa_len hx, List.length_map]
  have e0 := each_zip rv hx
  have hmem : ∀ d ∈ (xs.zip ls).map (fun b => Grv.prD b.2), ∃ p ∈ ls, d = Grv.prD p := fun d hd => by
    obtain ⟨b, hb, rfl⟩ := List.mem_map.mp hd
    exact ⟨b.2, (List.of_mem_zip hb).2, rfl⟩
  refine PySem.W.sorted_data (enc := fun b : V × (Grv.Tree × Int) => Grv.prD b.2) (R := fun u b => RelV b.1 u ∧ Dp X.K H b.1 (Grv.prD b.2)) pl.isList e0 (e0.mono fun u b q => Dp.reads I _ _ _ q.2 q.1) (fun d hd d' hd' => ?_) (.inl fun d hd => ?_) ?_ (fun b hb => ?_) fun out ho eo => ?_
  · obtain ⟨p, _, rfl⟩ := hmem d hd
    obtain ⟨p', _, rfl⟩ := hmem d' hd'
    exact Grv.alike_pair p p'
  · obtain ⟨p, _, rfl⟩ := hmem d hd
    exact ⟨_, _, rfl⟩
  · rw [List.length_zip, hlen, Nat.min_self, sizeLine_eq]
    omega
  · have := hdep b.2 (List.of_mem_zip hb).2
    show X.A.units + 2 + (Grv.prD b.2).depth < cLine
    omega
  · obtain ⟨c, hc⟩ := sortedAll_at s.heap its out.toArray
    obtain ⟨e1, e2⟩ := each_unzip eo
    have ms : ((xs.zip ls).mergeSort (PySem.W.dataLe false fun b : V × (Grv.Tree × Int) => Grv.prD b.2)).map (·.2) = ls.mergeSort (fun a b => !PySem.W.dataLt (Grv.prD b) (Grv.prD a)) := by
      have q1 := List.map_mergeSort (r := PySem.W.dataLe false fun b : V × (Grv.Tree × Int) => Grv.prD b.2) (s := fun a b : Grv.Tree × Int => !PySem.W.dataLt (Grv.prD b) (Grv.prD a)) (f := fun b : V × (Grv.Tree × Int) => b.2) (l := xs.zip ls) (fun _ _ _ _ => rfl)
      rw [zip_snd hlen] at q1
      exact q1
    have e3 : DpAll X.K (upd H (s.heap.objs.size + 1) (.lst (((xs.zip ls).mergeSort (PySem.W.dataLe false fun b : V × (Grv.Tree × Int) => Grv.prD b.2)).map (·.1)))) _ _ := dpa_ex (Ex.new (I.hok.fresh (Nat.le_succ _))) e2
    have hl2 : (((xs.zip ls).mergeSort (PySem.W.dataLe false fun b : V × (Grv.Tree × Int) => Grv.prD b.2)).map (·.1)).length ≤ sizeLine := by
      rw [List.length_map, List.length_mergeSort, List.length_zip, hlen, Nat.min_self, sizeLine_eq]
      omega
    refine ⟨.ref (s.heap.objs.size + 1), upd H (s.heap.objs.size + 1) (.lst (((xs.zip ls).mergeSort (PySem.W.dataLe false fun b : V × (Grv.Tree × Int) => Grv.prD b.2)).map (·.1))), I.laid (t' := s.toks) (fun _ _ => sortedAll_old) (Nat.le_succ _)
      (show ObjOk X.prog X.w _ _ _ (.lst (((xs.zip ls).mergeSort (PySem.W.dataLe false fun b : V × (Grv.Tree × Int) => Grv.prD b.2)).map (·.1))) from ⟨hl2, out, c, e1, hc⟩), rfl, q _ (ls.mergeSort (fun a b => !PySem.W.dataLt (Grv.prD b) (Grv.prD a))) _ (List.mergeSort_perm _ _) rfl ?_ (I.hok.fresh (Nat.le_succ _))⟩
    rw [ms] at e2
    exact e2
end
end Fell

/-! FR4 -/
set_option Elab.async false
set_option linter.all false
set_option maxRecDepth 100000
set_option maxHeartbeats 4000000
/-! Rules that the layer lacks, 4: isinstance of a caught error that has fields. -/
namespace Fell
open PySem PySem.Spec PyProof.Rows L2 Evl
/-- what the class at D says, for isinstance of its instances -/
structure IsC (K : KK) (D : Addr) : Prop where
  cl : (PySem.W.clsIn K D).isSome = true
  ga : PySem.W.findIn K (.ref D) "__getattribute__" = some (some (.builtin "BaseException.__getattribute__"))
  gg : PySem.W.findIn K (.ref D) "__getattr__" = some none
  ex : PySem.W.subIn K (.ref D) (.type "BaseException") = some true
  ha : PySem.W.findIn K (.ref D) "__class__" = some (some (.builtin "object.__class__"))
  hn : PySem.W.specialIn K (.builtin "object.__class__") "__get__" = some (some (.builtin "getset_descriptor.__get__"))
  ht : PySem.W.takesIn K (.builtin "object.__class__") = some true
  hm : PySem.W.mroIn K D (.type "object") = some true
section
variable {X : Cx} {a D d : Addr} {oe : Obj} {pn : List (Addr × Obj)}
theorem inst_of {pins : List (Addr × Obj)} {s : Shared} {σ : L2.St} {H : Hp} {fs : List (Str × V)} (I : Inv (X.suite a ((a, oe) :: pn)) pins σ H s) (hz : Zc (.ref D) (some d) oe) (hf : ∃ vs, oe.data = .fields vs) (hd : H d = some (.xd fs)) :
    ∃ od, PySem.W.InstAt s.heap a oe D od := by
  obtain ⟨ha, _⟩ := I.pin (a, oe) (List.mem_append_left _ List.mem_cons_self)
  obtain ⟨vs, hv⟩ := hf
  have hx : ObjOk X.prog X.w H s.heap d (.xd fs) := I.hok d _ hd
  obtain ⟨mA, hns, _⟩ := hx
  obtain ⟨od, ho, _⟩ := lookIn_ns hns
  exact ⟨some od, ha, hz.1, by unfold PySem.W.notCls; rw [hv] <;> rfl, by rw [hz.2]; exact ho⟩
def rIsX (K : KK) (D a d : Addr) : List V → Hp → VK → Prop := fun xs H Q => ∃ (c : V) (u : Value) (b : Bool) (fs : List (Str × V)), xs = [.ref a, c] ∧ ClsV c u ∧ H d = some (.xd fs) ∧ PySem.W.kitOne K (.ref D) u = some b ∧ Q (.bl b) H
theorem call_isX (C : IsC X.K D) (hz : Zc (.ref D) (some d) oe) (hf : ∃ vs, oe.data = .fields vs) : CallR (X.suite a ((a, oe) :: pn)) (.builtin "isinstance") (rIsX X.K D a d) := by
  intro pins s σ H xs us Q I r h
  obtain ⟨c, u, b, fs, rfl, k, hd, e, q⟩ := h
  obtain ⟨u1, u2, rfl, r1, r2⟩ := vals2 r
  have e2 := k.eq r2
  subst e2
  obtain rfl : u1 = Value.ref a := r1
  obtain ⟨od, J⟩ := inst_of I hz hf hd
  exact PySem.W.kia_one (PySem.W.kitx_exc C.cl C.ga C.gg C.ex C.ha C.hn C.ht C.hm) I.kIn J e (fun z => nomatch z) fun tk => ⟨.bl b, H, I.tok tk, rfl, q⟩
def rIsXT (K : KK) (D a d : Addr) : List V → Hp → VK → Prop := fun xs H Q => ∃ (tp : Addr) (cs : List V) (us : List Value) (b : Bool) (fs : List (Str × V)), xs = [.ref a, .ref tp] ∧ H tp = some (.tup cs) ∧ Paired ClsV cs us ∧ H d = some (.xd fs) ∧ PySem.W.kitAny K (.ref D) us = some b ∧ Q (.bl b) H
theorem call_isXT (C : IsC X.K D) (hz : Zc (.ref D) (some d) oe) (hf : ∃ vs, oe.data = .fields vs) : CallR (X.suite a ((a, oe) :: pn)) (.builtin "isinstance") (rIsXT X.K D a d) := by
  intro pins s σ H xs us Q I r h
  obtain ⟨tp, cs, ws, b, fs, rfl, hT, k, hd, e, q⟩ := h
  obtain ⟨u1, u2, rfl, r1, r2⟩ := vals2 r
  obtain rfl : u1 = Value.ref a := r1
  obtain rfl : u2 = Value.ref tp := r2
  obtain ⟨od, J⟩ := inst_of I hz hf hd
  obtain ⟨_, its, rv, o, h1, h2, n, h3⟩ := (show ObjOk X.prog X.w H s.heap tp (.tup cs) from I.hok tp _ hT)
  have e3 := ClsV.all k rv
  subst e3
  obtain ⟨oc, od', dt, sl⟩ := o
  simp only at h2 h3
  subst h2 h3
  exact PySem.W.kia_tup (PySem.W.kitx_exc C.cl C.ga C.gg C.ex C.ha C.hn C.ht C.hm) I.kIn J h1 e (fun z => nomatch z) fun tk => ⟨.bl b, H, I.tok tk, rfl, q⟩
end
end Fell

/-! FP0 -/
set_option Elab.async false
set_option linter.all false
set_option maxRecDepth 100000
set_option maxHeartbeats 4000000
/-! The text of the program by places; what stands of it behind the top; how a def is called. -/
namespace Fell
open PySem PySem.Spec PyProof.Rows L2 Evl
def top (i : Nat) : Stmt := PySem.Challenge.pw_felltimber_k72_whole_sorts_needed.main.body.getD i (.Pass ⟨0, 0, 0, 0⟩)
/-- the def st under the name x -/
def At (K : KK) (mg : Str → Option Value) (x : Str) (st : Stmt) : Prop := ∃ f fd, FunD K x x (defArgs st) (defBody st) (defScope st) [] [] f fd ∧ mg x = some (.ref f)
/-- a method -/
def MAt (K : KK) (C : Addr) (m qual : Str) (st : Stmt) : Prop := ∃ f fd, FunD K m qual (defArgs st) (defBody st) (defScope st) [] [] f fd ∧ Meth K C m f
/-- a def that may be called -/
def Cal (P : Program) (w : World) (K : KK) (mg : Str → Option Value) (base : Heap) (k : Nat) (x : Str) (sp : Sp) : Prop :=
  ∃ f fd ps, FnOk P w K mg base CX0 k f fd ps sp ∧ mg x = some (.ref f) ∧ PySem.W.keepIn K (.ref f) = true ∧ Binds K fd ps []
def Met (P : Program) (w : World) (K : KK) (mg : Str → Option Value) (base : Heap) (k : Nat) (C : Addr) (m : Str) (sp : Sp) : Prop :=
  ∃ f fd ps, Cls K C ∧ Meth K C m f ∧ FnOk P w K mg base CX0 k f fd ps sp ∧ Binds K fd ps []
def Mak (P : Program) (w : World) (K : KK) (mg : Str → Option Value) (base : Heap) (k : Nat) (x : Str) (C : Addr) (sp : Sp) : Prop :=
  ∃ f fd ps, Mk K C f ∧ FnOk P w K mg base CX0 k f fd ps sp ∧ mg x = some (.ref C) ∧ Binds K fd ps []
section
variable {P : Program} {w : World} {K : KK} {mg : Str → Option Value} {base : Heap} {C : Addr}
theorem calD {x : Str} {st : Stmt} {N ps : List Str} {k : Nat} {sp : Sp} (a : At K mg x st) (sc : FnScope N ps (defScope st)) (len : ∀ vs H Q E, sp vs H Q E → vs.length = ps.length)
    (hb : ∀ (kV doc pm : Value) (an : Option Addr) (cdv ct : Value) (us : List Value), us.length = ps.length → bindArgs (PySem.W.fnOf x x (defArgs st) (defBody st) (defScope st) .none kV doc pm an cdv ct) ⟨us, []⟩ = pure (ps.zip us))
    (hbody : ∀ (f : Addr) (cdv : Value) (A : Around) (outer : List Env) (s : Shared) (H : Hp) (vs : List V) (Q : VK) (E : XK), Room k (A.deeper (envOfC x (defScope st) s.heap.objs.size f cdv)) → sp vs H Q E →
      ∃ t, PSs (cxOf CX0 P w K mg base N x (defScope st) f cdv A outer s H E).nox (defBody st) t ∧ t { nx := fun _ H' => Q .non H', rt := Q } (start N vs) H) : Cal P w K mg base (k + 1) x sp := by
  obtain ⟨f, fd, F, hm⟩ := a
  refine ⟨f, fd, ps, F.ok sc len fun cdv A outer s H vs Q E hr hsp => ?_, hm, F.kp, FunD.bindsN (ps := ps) F hb⟩
  obtain ⟨t, h, q⟩ := hbody f cdv A outer s H vs Q E hr hsp
  exact ⟨t, h.nox, q⟩
theorem metD {m qual : Str} {st : Stmt} {N ps : List Str} {k : Nat} {sp : Sp} (c : Cls K C) (a : MAt K C m qual st) (sc : FnScope N ps (defScope st)) (len : ∀ vs H Q E, sp vs H Q E → vs.length = ps.length)
    (hb : ∀ (kV doc pm : Value) (an : Option Addr) (cdv ct : Value) (us : List Value), us.length = ps.length → bindArgs (PySem.W.fnOf m qual (defArgs st) (defBody st) (defScope st) .none kV doc pm an cdv ct) ⟨us, []⟩ = pure (ps.zip us))
    (hbody : ∀ (f : Addr) (cdv : Value) (A : Around) (outer : List Env) (s : Shared) (H : Hp) (vs : List V) (Q : VK) (E : XK), Room k (A.deeper (envOfC qual (defScope st) s.heap.objs.size f cdv)) → sp vs H Q E →
      ∃ t, PSs (cxOf CX0 P w K mg base N qual (defScope st) f cdv A outer s H E).nox (defBody st) t ∧ t { nx := fun _ H' => Q .non H', rt := Q } (start N vs) H) : Met P w K mg base (k + 1) C m sp := by
  obtain ⟨f, fd, F, hm⟩ := a
  refine ⟨f, fd, ps, c, hm, F.ok sc len fun cdv A outer s H vs Q E hr hsp => ?_, FunD.bindsN (ps := ps) F hb⟩
  obtain ⟨t, h, q⟩ := hbody f cdv A outer s H vs Q E hr hsp
  exact ⟨t, h.nox, q⟩
theorem makD {x qual : Str} {f : Addr} {fd : FuncData} {st : Stmt} {N ps : List Str} {k : Nat} {sp : Sp} (M : Mk K C f) (hm : mg x = some (.ref C)) (F : FunD K "__init__" qual (defArgs st) (defBody st) (defScope st) [] [] f fd) (sc : FnScope N ps (defScope st)) (len : ∀ vs H Q E, sp vs H Q E → vs.length = ps.length)
    (hb : ∀ (kV doc pm : Value) (an : Option Addr) (cdv ct : Value) (us : List Value), us.length = ps.length → bindArgs (PySem.W.fnOf "__init__" qual (defArgs st) (defBody st) (defScope st) .none kV doc pm an cdv ct) ⟨us, []⟩ = pure (ps.zip us))
    (hbody : ∀ (f : Addr) (cdv : Value) (A : Around) (outer : List Env) (s : Shared) (H : Hp) (vs : List V) (Q : VK) (E : XK), Room k (A.deeper (envOfC qual (defScope st) s.heap.objs.size f cdv)) → sp vs H Q E →
      ∃ t, PSs (cxOf CX0 P w K mg base N qual (defScope st) f cdv A outer s H E).nox (defBody st) t ∧ t { nx := fun _ H' => Q .non H', rt := Q } (start N vs) H) : Mak P w K mg base (k + 1) x C sp := by
  refine ⟨f, fd, ps, M, F.ok sc len fun cdv A outer s H vs Q E hr hsp => ?_, hm, FunD.bindsN (ps := ps) F hb⟩
  obtain ⟨t, h, q⟩ := hbody f cdv A outer s H vs Q E hr hsp
  exact ⟨t, h.nox, q⟩
end
section
variable {X : Cx} {k j : Nat} {C : Addr} {x m : Str} {sp : Sp} {p pos apos : Pos} {e o : Expr} {es : List Expr} {ta : TE} {t : TA}
theorem pe_c (c : Cal X.prog X.w X.K X.mg X.base k x sp) (hr : Room j X.A) (hk : k ≤ j) (hg : Gl X x) (ha : PA X (e :: es) t)
    (hdb : (x == ("__debug__" : Str)) = false := by decide) (he : starEach (e :: es) X.env = (false, eval e X.env) :: starEach es X.env := by rfl) (hpl : (backTo pos (starEach es X.env)).any (·.1) = false := by rfl) :
    PE X (.Call (.Name x p) (e :: es) [] pos) (tCall sp [] E0 t) := by
  obtain ⟨f, fd, ps, F, hm, kp, b⟩ := c
  exact pe_call F (hr.mono hk) hg hm kp b .nil pass0 ha hdb he hpl
theorem pe_mk (c : Mak X.prog X.w X.K X.mg X.base k x C sp) (hr : Room j X.A) (hk : k + 1 ≤ j) (hg : Gl X x) (ha : PA X (e :: es) t)
    (hdb : (x == ("__debug__" : Str)) = false := by decide) (he : starEach (e :: es) X.env = (false, eval e X.env) :: starEach es X.env := by rfl) (hpl : (backTo pos (starEach es X.env)).any (·.1) = false := by rfl) :
    PE X (.Call (.Name x p) (e :: es) [] pos) (tMake C sp [] E0 t) := by
  obtain ⟨f, fd, ps, M, F, hm, b⟩ := c
  exact pe_make M F (hr.mono hk) hg hm b .nil pass0 ha hdb he hpl
theorem pe_mt {pl : Sem Bool} (c : Met X.prog X.w X.K X.mg X.base k C m sp) (hr : Room j X.A) (hk : k ≤ j) (he : PE X o ta) (ha : PA X (e :: es) t)
    (hst : starEach (e :: es) X.env = (false, eval e X.env) :: starEach es X.env := by rfl) (hpl : (backTo pos (starEach es X.env)).any (·.1) = false := by rfl)
    (ht : eval (.Call (.Attribute o m apos) (e :: es) [] pos) X.env = (do
      let ov ← eval o X.env
      standAt apos.atName
      let (f, first) ← holding [ov] (getMethod ov m pl)
      callWith pos f first (backTo pos (starEach (e :: es) X.env)) (backToKw pos (keywordEach [] X.env))) := by rfl) :
    PE X (.Call (.Attribute o m apos) (e :: es) [] pos) (tMeth C m sp [] E0 ta t) := by
  obtain ⟨f, fd, ps, hc, hm, F, b⟩ := c
  exact pe_meth (pl := pl) he hc hm F (hr.mono hk) b .nil pass0 ha hst hpl ht
theorem pe_mt0 {pl : Sem Bool} (c : Met X.prog X.w X.K X.mg X.base k C m sp) (hr : Room j X.A) (hk : k ≤ j) (he : PE X o ta)
    (ht : eval (.Call (.Attribute o m apos) [] [] pos) X.env = (do
      let ov ← eval o X.env
      standAt apos.atName
      let (f, first) ← holding [ov] (getMethod ov m pl)
      callWith pos f first (backTo pos (starEach [] X.env)) (backToKw pos (keywordEach [] X.env))) := by rfl) :
    PE X (.Call (.Attribute o m apos) [] [] pos) (tMeth C m sp [] E0 ta tNil) := by
  obtain ⟨f, fd, ps, hc, hm, F, b⟩ := c
  exact pe_meth0 (pl := pl) he hc hm F (hr.mono hk) b .nil pass0 ht
/-- a name of the module, by its value -/
theorem pe_gc {v : V} (hg : Gl X x) (h : ∃ u, X.mg x = some u ∧ RelV v u) (hd : (x == ("__debug__" : Str)) = false := by decide) : PE X (.Name x pos) (tC v) := by
  obtain ⟨u, hm, r⟩ := h
  exact pe_glob hg hm r hd
theorem pt_bool {c : Expr} {t : TT} (h : PW X c t) : PT X c t := h.pt
end
theorem b_len : bootBuiltins "len" = some (.builtin "len") := by decide +kernel
theorem b_sorted : bootBuiltins "sorted" = some (.builtin "sorted") := by decide +kernel
theorem b_sum : bootBuiltins "sum" = some (.builtin "sum") := by decide +kernel
theorem b_all : bootBuiltins "all" = some (.builtin "all") := by decide +kernel
theorem b_any : bootBuiltins "any" = some (.builtin "any") := by decide +kernel
theorem b_max : bootBuiltins "max" = some (.builtin "max") := by decide +kernel
theorem b_abs : bootBuiltins "abs" = some (.builtin "abs") := by decide +kernel
theorem b_isinstance : bootBuiltins "isinstance" = some (.builtin "isinstance") := by decide +kernel
theorem b_tuple : bootBuiltins "tuple" = some (.type "tuple") := by decide +kernel
theorem b_list : bootBuiltins "list" = some (.type "list") := by decide +kernel
theorem b_set : bootBuiltins "set" = some (.type "set") := by decide +kernel
theorem b_int : bootBuiltins "int" = some (.type "int") := by decide +kernel
theorem b_bool : bootBuiltins "bool" = some (.type "bool") := by decide +kernel
theorem b_str : bootBuiltins "str" = some (.type "str") := by decide +kernel
/-- what the top has written. aO, aS: where ONE and SORTS stand; B: the class Book, bI its __init__ -/
structure Txt (K : KK) (mg : Str → Option Value) (aO aS B bI : Addr) : Prop where
  a_spots : At K mg "spots" (top 22)
  a_steps_of : At K mg "steps_of" (top 23)
  a_leads : At K mg "leads" (top 24)
  a_endless_kinds : At K mg "endless_kinds" (top 25)
  a_is_name : At K mg "is_name" (top 29)
  a_is_whole : At K mg "is_whole" (top 30)
  a_is_less : At K mg "is_less" (top 33)
  a_behind : At K mg "behind" (top 35)
  a_both : At K mg "both" (top 36)
  a_many_of : At K mg "many_of" (top 37)
  a_power : At K mg "power" (top 39)
  a_above : At K mg "above" (top 40)
  a_spread : At K mg "spread" (top 41)
  a_kinds_in : At K mg "kinds_in" (top 43)
  a_look_at_kind : At K mg "look_at_kind" (top 44)
  a_look_at_ends : At K mg "look_at_ends" (top 45)
  a_weighed_tree : At K mg "weighed_tree" (top 47)
  a_weighed : At K mg "weighed" (top 48)
  a_above_rule : At K mg "above_rule" (top 50)
  a_greatest_rule : At K mg "greatest_rule" (top 51)
  a_own_ranks : At K mg "own_ranks" (top 52)
  a_own_rank : At K mg "own_rank" (top 53)
  a_is_counted : At K mg "is_counted" (top 56)
  a_sort_of : At K mg "sort_of" (top 57)
  a_sort_needed : At K mg "sort_needed" (top 58)
  a_is_tree : At K mg "is_tree" (top 60)
  a_is_pair : At K mg "is_pair" (top 61)
  a_is_grove : At K mg "is_grove" (top 62)
  a_parts_of : At K mg "parts_of" (top 63)
  a_names_told : At K mg "names_told" (top 69)
  a_fits_in : At K mg "fits_in" (top 70)
  a_is_rule : At K mg "is_rule" (top 71)
  a_are_rules : At K mg "are_rules" (top 72)
  a__law_at : At K mg "_law_at" (top 75)
  a__law_purse : At K mg "_law_purse" (top 76)
  a__law_draw : At K mg "_law_draw" (top 77)
  a__law_names : At K mg "_law_names" (top 78)
  a__law_grove : At K mg "_law_grove" (top 79)
  a__law_planted : At K mg "_law_planted" (top 80)
  a__law_drawn : At K mg "_law_drawn" (top 81)
  a__law_kinds : At K mg "_law_kinds" (top 82)
  a__law_stands : At K mg "_law_stands" (top 83)
  a__law_reached : At K mg "_law_reached" (top 84)
  a__law_endless : At K mg "_law_endless" (top 85)
  a__law_word : At K mg "_law_word" (top 86)
  a__law_refused : At K mg "_law_refused" (top 87)
  a__law_needed : At K mg "_law_needed" (top 88)
  a_law : At K mg "law" (top 89)
  n_len : mg "len" = none
  n_sorted : mg "sorted" = none
  n_sum : mg "sum" = none
  n_all : mg "all" = none
  n_any : mg "any" = none
  n_max : mg "max" = none
  n_abs : mg "abs" = none
  n_isinstance : mg "isinstance" = none
  n_tuple : mg "tuple" = none
  n_list : mg "list" = none
  n_set : mg "set" = none
  n_int : mg "int" = none
  n_bool : mg "bool" = none
  n_str : mg "str" = none
  n_range : mg "range" = none
  n_zip : mg "zip" = none
  n_enumerate : mg "enumerate" = none
  g_ONE : ∃ u, mg "ONE" = some u ∧ RelV (.ref aO) u
  d_ONE : ∀ H, Dp K H (.ref aO) Lad.one.d
  g_SORTS : ∃ u, mg "SORTS" = some u ∧ RelV (.ref aS) u
  d_SORTS : ∀ H, SqT K H aS ((["number", "pair", "power", "tower"] : List Str).map V.str)
  t_SORTS : ∃ o, K.lookup aS = some o ∧ o.cls = .type "tuple" ∧ o.dict = none
  g_LETTERS : ∃ u, mg "LETTERS" = some u ∧ RelV (.str "abcdefghijklmnopqrstuvwxyz") u
  g_MOST_LETTERS : ∃ u, mg "MOST_LETTERS" = some u ∧ RelV (.int 8) u
  g_MOST_KINDS : ∃ u, mg "MOST_KINDS" = some u ∧ RelV (.int 8) u
  g_MOST_RULES : ∃ u, mg "MOST_RULES" = some u ∧ RelV (.int 4) u
  g_MOST_PARTS : ∃ u, mg "MOST_PARTS" = some u ∧ RelV (.int 4) u
  g_MOST_MANY : ∃ u, mg "MOST_MANY" = some u ∧ RelV (.int 1000000000) u
  cB : Cls K B
  gB : mg "Book" = some (.ref B)
  kB : Mk K B bI
  i_Book : ∃ fd, FunD K "__init__" "Book.__init__" (defArgs (inClass (top 73) 0)) (defBody (inClass (top 73) 0)) (defScope (inClass (top 73) 0)) [] [] bI fd
  m_names : MAt K B "names" "Book.names" (inClass (top 73) 1)
  m_spreads : MAt K B "spreads" "Book.spreads" (inClass (top 73) 2)
  m_rules : MAt K B "rules" "Book.rules" (inClass (top 73) 3)
  m_look_for : MAt K B "look_for" "Book.look_for" (inClass (top 73) 4)
  f_told : NoAttr K B "told"
  f_wide : NoAttr K B "wide"
  f_ways : NoAttr K B "ways"
end Fell

/-! FL3 -/
set_option Elab.async false
set_option linter.all false
set_option maxRecDepth 100000
set_option maxHeartbeats 4000000
/-! Shapes, loops over enumerate and zip, promises on data. -/
namespace Fell
open PySem PySem.Spec PyProof.Rows L2 Evl
/-! ### shapes -/
theorem lad_lay : ∀ a : Lad, PyData.canLayAll0 a.ds = true
  | .nil => by simp [Lad.ds, PyData.canLayAll0]
  | .cons e m r => by simp [Lad.ds, PyData.canLayAll0, PyData.canLay0, lad_lay e, lad_lay r]
theorem lad_depth : ∀ a : Lad, PyData.depthAll a.ds ≤ 2 * a.dep
  | .nil => by simp [Lad.ds, PyData.depthAll]
  | .cons e m r => by
    have h1 := lad_depth e
    have h2 := lad_depth r
    simp only [Lad.ds, PyData.depthAll, PyData.depth, Lad.dep]
    omega
theorem shaped_lad {a : Lad} (h : a.dep ≤ 30) : SeqAt.shaped a.d = true := by
  have h1 := lad_depth a
  have e : (Lad.d a).depth = PyData.depthAll a.ds + 1 := by rw [Lad.d, PyData.depth]
  have e2 : (Lad.d a).canLay0 = true := by rw [Lad.d, PyData.canLay0]; exact lad_lay a
  unfold SeqAt.shaped
  rw [e2, e]
  exact decide_eq_true (by omega)
theorem shaped_nil : SeqAt.shaped (.tuple []) = true := shaped_lad (a := .nil) (by decide)
theorem shaped_nilL : SeqAt.shaped (.list []) = true := by decide
theorem shaped_int {i : Int} : SeqAt.shaped (.int i) = true := by simp [SeqAt.shaped, PyData.canLay0, PyData.depth]
/-- a text that a tuple of texts may hold -/
def okS (k : Str) : Prop := PyData.strOk k = true
theorem grv_lay : ∀ {a : Grv}, (∀ k ∈ a.stands, okS k) → PyData.canLayAll0 a.ds = true
  | .nil, _ => by simp [Grv.ds, PyData.canLayAll0]
  | .cons k g m r, h => by
    have h0 : PyData.strOk k = true := h k List.mem_cons_self
    have h1 := grv_lay (a := g) fun x hx => h x (List.mem_cons_of_mem _ (List.mem_append_left _ hx))
    have h2 := grv_lay (a := r) fun x hx => h x (List.mem_cons_of_mem _ (List.mem_append_right _ hx))
    simp [Grv.ds, PyData.canLayAll0, PyData.canLay0, h0, h1, h2]
theorem grv_depth : ∀ a : Grv, PyData.depthAll a.ds ≤ 3 * a.dep
  | .nil => by simp [Grv.ds, PyData.depthAll]
  | .cons k g m r => by
    have h1 := grv_depth g
    have h2 := grv_depth r
    simp only [Grv.ds, PyData.depthAll, PyData.depth, Grv.dep]
    omega
theorem depth_grv (a : Grv) : (Grv.d a).depth ≤ 3 * a.dep + 1 := by
  have h1 := grv_depth a
  have e : (Grv.d a).depth = PyData.depthAll a.ds + 1 := by rw [Grv.d, PyData.depth]
  omega
theorem depth_tr (t : Grv.Tree) : (Grv.trD t).depth ≤ 3 * t.2.dep + 2 := by
  have h := depth_grv t.2
  simp only [Grv.trD, PyData.depth, PyData.depthAll]
  omega
theorem depth_pr (t : Grv.Tree × Int) : (Grv.prD t).depth ≤ 3 * t.1.2.dep + 3 := by
  have h := depth_tr t.1
  simp only [Grv.prD, PyData.depth, PyData.depthAll]
  omega
theorem shaped_tr {t : Grv.Tree} (h1 : okS t.1) (h2 : ∀ k ∈ t.2.stands, okS k) (h : t.2.dep ≤ 15) : SeqAt.shaped (Grv.trD t) = true := by
  have d1 := depth_tr t
  have e2 : (Grv.trD t).canLay0 = true := by
    have a1 : PyData.strOk t.1 = true := h1
    have a2 := grv_lay h2
    simp [Grv.trD, Grv.d, PyData.canLay0, PyData.canLayAll0, a1, a2]
  unfold SeqAt.shaped
  rw [e2]
  exact decide_eq_true (by omega)
theorem strs_lay : ∀ {l : List Str}, (∀ k ∈ l, okS k) → PyData.canLayAll0 (l.map PyData.str) = true
  | [], _ => by simp [PyData.canLayAll0]
  | k :: l, h => by
    have h0 : PyData.strOk k = true := h k List.mem_cons_self
    have h1 := strs_lay (l := l) fun x hx => h x (List.mem_cons_of_mem _ hx)
    simp [PyData.canLayAll0, PyData.canLay0, h0, h1]
theorem strs_depth : ∀ l : List Str, PyData.depthAll (l.map PyData.str) = 0
  | [] => by simp [PyData.depthAll]
  | k :: l => by simp [PyData.depthAll, PyData.depth, strs_depth l]
theorem shaped_strs {l : List Str} (h : ∀ k ∈ l, okS k) : SeqAt.shaped (.list (l.map PyData.str)) = true := by
  have e2 : (PyData.list (l.map PyData.str)).canLay0 = true := by rw [PyData.canLay0]; exact strs_lay h
  have e : (PyData.list (l.map PyData.str)).depth = 1 := by rw [PyData.depth, strs_depth]
  unfold SeqAt.shaped
  rw [e2, e]
  decide
theorem eqv_strs : ∀ l m : List Str, PyData.eqvAll (l.map PyData.str) (m.map PyData.str) = decide (l = m)
  | [], [] => by simp [PyData.eqvAll]
  | [], b :: m => by simp [PyData.eqvAll]
  | a :: l, [] => by simp [PyData.eqvAll]
  | a :: l, b :: m => by
    have h := eqv_strs l m
    simp only [List.map_cons, PyData.eqvAll, PyData.eqv, h]
    by_cases e : a = b <;> by_cases e' : l = m <;> simp [e, e']
theorem eqv_nilL (l : List PyData) : PyData.eqv (.list l) (.list []) = decide (l = []) := by
  rw [PyData.eqv]
  cases l <;> simp [PyData.eqvAll]
theorem eqv_lad_nil (a : Lad) : PyData.eqv a.d (.tuple []) = decide (a = .nil) := Lad.eqv a .nil

/-! ### loops -/
section
variable {K : KK} {σ : L2.St} {H H' : Hp} {ta tb te tx : TE} {tu : TS} {g : TG} {D : Ends} {ds es : List PyData}
theorem s_forZ {tz : TA} (h : EvDA K tz σ H [.tuple ds, .tuple es]) (Pv : Hp → Nat → L2.St → Hp → Prop) (h0 : ∀ H1, Ex H H1 → Pv H1 0 σ H1) (ht : ∀ H1 i σ' H', Pv H1 i σ' H' → Ex H1 H')
    (hs : ∀ H1, Ex H H1 → ∀ i d e x σ' H0 H', ds[i]? = some d → es[i]? = some e → Dp K H' x (.tuple [d, e]) → Pv H1 i σ' H0 → Ex H0 H' → g x σ' H' fun σ2 H2 => tu { D with nx := Pv H1 (i + 1), ct := Pv H1 (i + 1), bk := D.nx } σ2 H2)
    (hd : ∀ H1, Ex H H1 → ∀ σ' H', Pv H1 (min ds.length es.length) σ' H' → D.nx σ' H') : tFor (RZ.iZipA K tz) g tu D σ H := h H (Ex.refl H) _ fun vs H1 e1 hv => by
  obtain ⟨v, w, rfl, h1, h2⟩ := dpa_two hv
  obtain ⟨a, xs, rfl, hq, hx⟩ := dp_tup h1
  obtain ⟨b, ys, rfl, hq', hy⟩ := dp_tup h2
  refine ⟨a, b, xs, ys, rfl, .inr ⟨hq, hq', for_zipU (Pv H1) (h0 H1 e1) (fun i σ' H' p => ⟨ex_t (ht H1 i σ' H' p) hq, ex_t (ht H1 i σ' H' p) hq'⟩) (fun i x y T σ' H' hi hj p hT => ?_) fun σ' H' p => ?_⟩⟩
  · obtain ⟨d, d1, d2⟩ := dpa_get hx hi
    obtain ⟨e, e1', e2'⟩ := dpa_get hy hj
    have E := (ht H1 i σ' H' p).trans (Ex.new (o := .tup [x, y]) hT)
    exact hs H1 e1 i d e _ σ' H' _ d1 e1' (.tup (st_of upd_same) (.cons (dp_ex E d2) (.cons (dp_ex E e2') .nil))) p (Ex.new hT)
  · rw [dpa_len hx, dpa_len hy] at p
    exact hd H1 e1 σ' H' p
theorem s_forET {tz : TA} (h : EvDA K tz σ H [.tuple ds]) (Pv : Hp → Nat → L2.St → Hp → Prop) (h0 : ∀ H1, Ex H H1 → Pv H1 0 σ H1) (ht : ∀ H1 i σ' H', Pv H1 i σ' H' → Ex H1 H')
    (hs : ∀ H1, Ex H H1 → ∀ (i : Nat) d x σ' H0 H', ds[i]? = some d → Dp K H' x (.tuple [.int (i : Nat), d]) → Pv H1 i σ' H0 → Ex H0 H' → g x σ' H' fun σ2 H2 => tu { D with nx := Pv H1 (i + 1), ct := Pv H1 (i + 1), bk := D.nx } σ2 H2)
    (hd : ∀ H1, Ex H H1 → ∀ σ' H', Pv H1 ds.length σ' H' → D.nx σ' H') : tFor (iEnumT K tz) g tu D σ H := h H (Ex.refl H) _ fun vs H1 e1 hv => by
  obtain ⟨v, rfl, h1⟩ := dpa_one hv
  obtain ⟨a, xs, rfl, hq, hx⟩ := dp_tup h1
  refine ⟨a, xs, rfl, hq, for_enumT (Pv H1) (h0 H1 e1) (fun i σ' H' p => ex_t (ht H1 i σ' H' p) hq) (fun i x T σ' H' hi p hT => ?_) fun σ' H' p => ?_⟩
  · obtain ⟨d, d1, d2⟩ := dpa_get hx hi
    have E := (ht H1 i σ' H' p).trans (Ex.new (o := .tup [.int (i : Nat), x]) hT)
    exact hs H1 e1 i d _ σ' H' _ d1 (.tup (st_of upd_same) (.cons (.int _) (.cons (dp_ex E d2) .nil))) p (Ex.new hT)
  · rw [dpa_len hx] at p
    exact hd H1 e1 σ' H' p
theorem s_forEL {tz : TA} (h : EvDA K tz σ H [.list ds]) (Pv : Hp → Nat → L2.St → Hp → Prop) (h0 : ∀ H1, Ex H H1 → Pv H1 0 σ H1) (ht : ∀ H1 i σ' H', Pv H1 i σ' H' → Ex H1 H')
    (hs : ∀ H1, Ex H H1 → ∀ (i : Nat) d x σ' H0 H', ds[i]? = some d → Dp K H' x (.tuple [.int (i : Nat), d]) → Pv H1 i σ' H0 → Ex H0 H' → g x σ' H' fun σ2 H2 => tu { D with nx := Pv H1 (i + 1), ct := Pv H1 (i + 1), bk := D.nx } σ2 H2)
    (hd : ∀ H1, Ex H H1 → ∀ σ' H', Pv H1 ds.length σ' H' → D.nx σ' H') : tFor (iEnum K tz) g tu D σ H := h H (Ex.refl H) _ fun vs H1 e1 hv => by
  obtain ⟨v, rfl, h1⟩ := dpa_one hv
  obtain ⟨a, xs, rfl, hq, hx⟩ := dp_lst h1
  refine ⟨a, xs, rfl, hq, for_enumL (Pv H1) (h0 H1 e1) (fun i σ' H' p => ex_l (ht H1 i σ' H' p) hq) (fun i x T σ' H' hi p hT => ?_) fun σ' H' p => ?_⟩
  · obtain ⟨d, d1, d2⟩ := dpa_get hx hi
    have E := (ht H1 i σ' H' p).trans (Ex.new (o := .tup [.int (i : Nat), x]) hT)
    exact hs H1 e1 i d _ σ' H' _ d1 (.tup (st_of upd_same) (.cons (.int _) (.cons (dp_ex E d2) .nil))) p (Ex.new hT)
  · rw [dpa_len hx] at p
    exact hd H1 e1 σ' H' p
/-- return of a test's value, an if whose both ways are known -/
theorem s_retB {b : Bool} (h : Ev te σ H (.bl b)) (k : ∀ H1, Ex H H1 → D.rt (.bl b) H1) : tRet te D σ H := s_ret h k
theorem s_ifD {t : TT} {b : Bool} {tw : TS} (h : EvT t σ H b) (h1 : b = true → ∀ H1, Ex H H1 → tu D σ H1) (h2 : b = false → ∀ H1, Ex H H1 → tw D σ H1) : tIfS t tu tw D σ H := s_if h h1 h2
end

/-! ### promises on data -/
/-- called with what ds are, handed back what d is, where R ds d -/
def spR (K : KK) (R : List PyData → PyData → Prop) : Sp := fun vs H Q _ => ∃ ds d, R ds d ∧ DpAll K H vs ds ∧ ∀ v H2, Ex H H2 → Dp K H2 v d → Q v H2
theorem spd_of {K : KK} {R : List PyData → PyData → Prop} {H : Hp} {ds : List PyData} {d : PyData} (r : R ds d) : SpD K (spR K R) H ds d := fun vs H1 e hv Q q E => ⟨ds, d, r, hv, q⟩
theorem spR_len {K : KK} {R : List PyData → PyData → Prop} {n : Nat} (h : ∀ ds d, R ds d → ds.length = n) : ∀ vs H Q E, spR K R vs H Q E → vs.length = n := fun vs H Q E ⟨ds, d, r, hv, _⟩ => by rw [dpa_len hv]; exact h ds d r
section
variable {P : Program} {w : World} {K : KK} {mg : Str → Option Value} {base : Heap} {C : Addr}
/-- what is never called -/
theorem calN {x : Str} {st : Stmt} {ps : List Str} {k : Nat} {sp : Sp} (a : At K mg x st) (no : ∀ vs H Q E, ¬ sp vs H Q E)
    (hb : ∀ (kV doc pm : Value) (an : Option Addr) (cdv ct : Value) (us : List Value), us.length = ps.length → bindArgs (PySem.W.fnOf x x (defArgs st) (defBody st) (defScope st) .none kV doc pm an cdv ct) ⟨us, []⟩ = pure (ps.zip us)) : Cal P w K mg base k x sp := by
  obtain ⟨f, fd, F, hm⟩ := a
  exact ⟨f, fd, ps, ⟨fun vs H Q E h => absurd h (no vs H Q E), fun A outer s H args us vs Q E _ _ _ _ h => absurd h (no vs H Q E)⟩, hm, F.kp, FunD.bindsN (ps := ps) F hb⟩
theorem Cal.mono {k k' : Nat} {x : Str} {sp : Sp} (c : Cal P w K mg base k x sp) (h : k ≤ k') : Cal P w K mg base k' x sp := by
  obtain ⟨f, fd, ps, F, r⟩ := c
  exact ⟨f, fd, ps, F.mono h, r⟩
end
end Fell

/-! FL4 -/
set_option Elab.async false
set_option linter.all false
set_option maxRecDepth 100000
set_option maxHeartbeats 4000000
/-! Lists that grow. -/
namespace Fell
open PySem PySem.Spec PyProof.Rows L2 Evl
/-- all but L stands -/
def Mut (L : Addr) (H H' : Hp) : Prop := ∀ a o, a ≠ L → H a = some o → H' a = some o
theorem Mut.of_ex {L : Addr} {H H' : Hp} (e : Ex H H') : Mut L H H' := fun a o _ h => e a o h
theorem Mut.trans {L : Addr} {H H1 H2 : Hp} (a : Mut L H H1) (b : Mut L H1 H2) : Mut L H H2 := fun x o n h => b x o n (a x o n h)
theorem Mut.exl {L : Addr} {H H1 H2 : Hp} (a : Ex H H1) (b : Mut L H1 H2) : Mut L H H2 := (Mut.of_ex a).trans b
theorem Mut.exr {L : Addr} {H H1 H2 : Hp} (a : Mut L H H1) (b : Ex H1 H2) : Mut L H H2 := a.trans (.of_ex b)
theorem Mut.upd {L : Addr} {H : Hp} {o : HO} : Mut L H (upd H L o) := fun a u n h => by rw [upd_ne n]; exact h
theorem Mut.base {L : Addr} {H0 H H' : Hp} (m : Mut L H H') (hn : H0 L = none) (e : Ex H0 H) : Ex H0 H' := fun a o h => m a o (ne_of_none h hn) (e a o h)
theorem Mut.tx {L : Addr} {H H' : Hp} {xs : List V} (m : Mut L H H') (hl : H L = some (.lst xs)) : Tx H H' := fun a ys q => by
  rcases q with q | ⟨ob, q⟩
  · exact .inl (m a _ (fun e => by rw [e, hl] at q; cases q) q)
  · exact .inr ⟨ob, m a _ (fun e => by rw [e, hl] at q; cases q) q⟩
theorem Mut.txd {L : Addr} {H H' : Hp} {xs : List (Key × V)} (m : Mut L H H') (hl : H L = some (.dK xs)) : Tx H H' := fun a ys q => by
  rcases q with q | ⟨ob, q⟩
  · exact .inl (m a _ (fun e => by rw [e, hl] at q; cases q) q)
  · exact .inr ⟨ob, m a _ (fun e => by rw [e, hl] at q; cases q) q⟩
/-- a tracked list of what fs are -/
def LstAt (K : KK) (H : Hp) (L : Addr) (fs : List PyData) : Prop := ∃ xs, H L = some (.lst xs) ∧ DpAll K H xs fs
section
variable {K : KK} {σ : L2.St} {H H' H1 : Hp} {L : Addr} {fs es ds : List PyData} {d : PyData} {ta te : TE} {tz : TS} {D : Ends} {r : R2}
theorem LstAt.ex (l : LstAt K H L fs) (e : Ex H H') : LstAt K H' L fs := let ⟨xs, h, p⟩ := l; ⟨xs, e _ _ h, dpa_ex e p⟩
theorem LstAt.dp (l : LstAt K H L fs) : Dp K H (.ref L) (.list fs) := let ⟨xs, h, p⟩ := l; .lst (sq_of h) p
theorem LstAt.tx (l : LstAt K H L fs) (m : Mut L H H') : Tx H H' := let ⟨xs, h, p⟩ := l; m.tx h
theorem LstAt.nil {L : Addr} (h : H L = some (.lst [])) : LstAt K H L [] := ⟨[], h, .nil⟩
theorem LstAt.other {M : Addr} (l : LstAt K H L fs) (m : Mut M H H') (t : Tx H H') (n : L ≠ M) (hn : noLs fs = true) : LstAt K H' L fs := let ⟨xs, h, p⟩ := l; ⟨xs, m _ _ n h, dpa_tx t hn p⟩
theorem LstAt.len (l : LstAt K H L fs) : ∃ xs, H L = some (.lst xs) ∧ xs.length = fs.length := let ⟨xs, h, p⟩ := l; ⟨xs, h, dpa_len p⟩
theorem noLs_app : ∀ {fs es : List PyData}, noLs fs = true → noLs es = true → noLs (fs ++ es) = true
  | [], _, _, h => h
  | f :: fs, es, h, k => by
    have h' : noL f = true ∧ noLs fs = true := by simpa [noLs] using h
    show noLs (f :: (fs ++ es)) = true
    simp only [noLs, h'.1, noLs_app h'.2 k, Bool.and_self]
theorem noLs_map {α : Type} {f : α → PyData} {l : List α} (h : ∀ a, noL (f a) = true) : noLs (l.map f) = true := noLs_all fun d hd => by
  obtain ⟨a, _, rfl⟩ := List.mem_map.mp hd
  exact h a
/-- L.append(te) -/
theorem s_appD (hl : LstAt K H L fs) (hn : noLs fs = true) (nd : noL d = true) (ha : ∀ H1, Ex H H1 → Ev ta σ H1 (.ref L)) (h : EvD K te σ H d) (hz : fs.length < 100000) (k : ∀ H2, Mut L H H2 → LstAt K H2 L (fs ++ [d]) → D.nx σ H2) :
    tDrop (tBM K "list" rAppend ta (tCons te tNil)) D σ H := ha H (Ex.refl H) H (Ex.refl H) _ fun H1 e1 => by
  obtain ⟨xs, hx, hp⟩ := hl
  refine ⟨Or.inl ⟨rfl, xs, sq_of (e1 L _ hx)⟩, h H1 e1 _ fun v H2 e2 hv => ⟨L, xs, v, rfl, rfl, e2 L _ (e1 L _ hx), sz_lt (by rw [dpa_len hp]; exact hz), ?_⟩⟩
  have h2 := e2 L _ (e1 L _ hx)
  have tx : Tx H2 (upd H2 L (.lst (xs ++ [v]))) := tx_lst h2
  exact k _ (.exl (e1.trans e2) .upd) ⟨_, upd_same, dpa_app (dpa_tx tx hn (dpa_ex (e1.trans e2) hp)) (.cons (dp_tx tx nd hv) .nil)⟩
theorem q_appD (hl : LstAt K H L fs) (hn : noLs fs = true) (nd : noL d = true) (ha : ∀ H1, Ex H H1 → Ev ta σ H1 (.ref L)) (h : EvD K te σ H d) (hz : fs.length < 100000) (k : ∀ H2, Mut L H H2 → LstAt K H2 L (fs ++ [d]) → tz D σ H2) :
    tSeq (tDrop (tBM K "list" rAppend ta (tCons te tNil))) tz D σ H := s_appD (D := { D with nx := tz D }) hl hn nd ha h hz k
/-- xs = [] -/
theorem ed_nilL : EvD K (tLst tNil) σ H (.list []) := ed_lst eda_nil (by decide)
theorem q_newL {i : Nat} (k : ∀ L H1, H L = none → Ex H H1 → LstAt K H1 L [] → tz D (σ.set i (some (.ref L))) H1) : tSeq (tAsg (tLst tNil) (gName i)) tz D σ H :=
  ⟨sz_of (by decide), fun p hp => k p _ hp (Ex.new hp) (.nil upd_same)⟩
/-- a list made by +, by a comprehension: a new one -/
theorem dp_str_list {v : V} {ns : List Str} (h : Dp K H v (.list (ns.map PyData.str))) : ∃ a, v = .ref a ∧ SqL K H a (ns.map V.str) := by
  obtain ⟨a, xs, rfl, hs, hx⟩ := dp_lst h
  rw [dpa_strs_eq hx] at hs
  exact ⟨a, rfl, hs⟩
theorem inV_strs {x : Str} : ∀ ns : List Str, inV (.str x) (ns.map V.str) = decide (x ∈ ns)
  | [] => by simp [inV]
  | n :: ns => by
    have h := inV_strs (x := x) ns
    unfold inV at h ⊢
    rw [List.map_cons, List.any_cons, h]
    have e : eqV (.str n) (.str x) = decide (x = n) := by
      show decide (n = x) = decide (x = n)
      exact decide_eq_decide.mpr eq_comm
    rw [e, ← Bool.decide_or]
    exact decide_eq_decide.mpr List.mem_cons.symm
theorem flat_strs (ns : List Str) : (ns.map V.str).all flatV = true := by
  rw [List.all_eq_true]
  intro v hv
  obtain ⟨n, _, rfl⟩ := List.mem_map.mp hv
  rfl
/-- a text in a list of texts -/
theorem ev_inS {x : Str} {ns : List Str} (ha : EvD K ta σ H (.str x)) (hb : EvD K te σ H (.list (ns.map PyData.str))) : Ev (tOp (rIn K false) ta te) σ H (.bl (decide (x ∈ ns))) := fun H1 e Q q =>
  ha H1 e _ fun v H2 e2 hv => hb H2 (e.trans e2) _ fun u H3 e3 hu => by
    obtain ⟨a, rfl, hs⟩ := dp_str_list hu
    rw [dp_str hv]
    refine ⟨a, _, rfl, .inl hs, rfl, flat_strs ns, ?_⟩
    show Q (.bl (inV (.str x) (ns.map V.str))) H3
    rw [inV_strs]
    exact q H3 (e2.trans e3)
theorem ev_niS {x : Str} {ns : List Str} (ha : EvD K ta σ H (.str x)) (hb : EvD K te σ H (.list (ns.map PyData.str))) : Ev (tOp (rIn K true) ta te) σ H (.bl (!decide (x ∈ ns))) := fun H1 e Q q =>
  ha H1 e _ fun v H2 e2 hv => hb H2 (e.trans e2) _ fun u H3 e3 hu => by
    obtain ⟨a, rfl, hs⟩ := dp_str_list hu
    rw [dp_str hv]
    refine ⟨a, _, rfl, .inl hs, rfl, flat_strs ns, ?_⟩
    show Q (.bl (!inV (.str x) (ns.map V.str))) H3
    rw [inV_strs]
    exact q H3 (e2.trans e3)
end
end Fell

/-! FP1 -/
set_option Elab.async false
set_option linter.all false
set_option maxRecDepth 100000
set_option maxHeartbeats 4000000
/-! The ladders' defs, walked. -/
namespace Fell
open PySem PySem.Spec PyProof.Rows L2 Evl
section
variable {P : Program} {w : World} {K : KK} {mg : Str → Option Value} {base : Heap} {aO aS B bI : Addr}
def RLess (n : Nat) (ds : List PyData) (d : PyData) : Prop := ∃ a b : Lad, a.dep < n ∧ b.dep < n ∧ n ≤ 30 ∧ ds = [a.d, b.d] ∧ d = .bool (Lad.less a b)
theorem sz1 {α : Type} {a : α} : [a].length ≤ 100000 := by show 1 ≤ 100000; decide
theorem sz2 {α : Type} {a b : α} : [a, b].length ≤ 100000 := by show 2 ≤ 100000; decide
theorem sz3 {α : Type} {a b c : α} : [a, b, c].length ≤ 100000 := by show 3 ≤ 100000; decide
theorem less_end {a b : Lad} : Lad.less (a.drop (min a.len b.len)) (b.drop (min a.len b.len)) = decide (a.len < b.len) := by
  rcases Nat.lt_or_ge a.len b.len with h | h
  · have e : min a.len b.len = a.len := by omega
    rw [e, Lad.drop_end (Nat.le_refl _), decide_eq_true h]
    have hl : (b.drop a.len).len = b.len - a.len := Lad.drop_len b a.len
    cases hb : b.drop a.len with
    | nil => rw [hb] at hl; simp [Lad.len] at hl; omega
    | cons e m r => rfl
  · have e : min a.len b.len = b.len := by omega
    rw [e, Lad.drop_end (a := b) (Nat.le_refl _), decide_eq_false (by omega), Lad.less_nil]
theorem dep_get : ∀ {a : Lad} {i : Nat} {p : Lad × Int}, a.toL[i]? = some p → 1 + p.1.dep ≤ a.dep
  | .nil, i, p, h => by simp [Lad.toL] at h
  | .cons e m r, 0, p, h => by
    have h' : (e, m) = p := by simpa [Lad.toL] using h
    subst h'
    simp only [Lad.dep]
    omega
  | .cons e m r, i + 1, p, h => by
    have h' : r.toL[i]? = some p := by simpa [Lad.toL] using h
    have := dep_get h'
    simp only [Lad.dep]
    omega
theorem ds_get {a : Lad} {i : Nat} {d : PyData} (h : a.ds[i]? = some d) : ∃ p, a.toL[i]? = some p ∧ d = Lad.prD p := by
  rw [Lad.ds_toL, List.getElem?_map] at h
  cases e : a.toL[i]? with
  | none => rw [e] at h; cases h
  | some p => rw [e] at h; exact ⟨p, rfl, (Option.some.inj h).symm⟩
theorem c_is_less (T : Txt K mg aO aS B bI) : ∀ n, Cal P w K mg base n "is_less" (spR K (RLess n))
  | 0 => calN (ps := ["one", "other"]) T.a_is_less (fun vs H Q E ⟨_, _, ⟨_, _, h, _⟩, _⟩ => absurd h (Nat.not_lt_zero _)) (fun _ _ _ _ _ _ us hl => match us, hl with | [_, _], _ => rfl)
  | n + 1 => by
    have c_is_less := c_is_less T n
    have sc : FnScope ["one", "other", "mine", "theirs"] ["one", "other"] (defScope (top 33)) := ⟨rfl, rfl, rfl, by decide +kernel, rfl, by decide +kernel, by decide +kernel⟩
    refine calD T.a_is_less sc (spR_len fun ds d ⟨_, _, _, _, _, e, _⟩ => by rw [e]; rfl) (fun _ _ _ _ _ _ us hl => match us, hl with | [_, _], _ => rfl) fun f cdv A outer s H vs Q E hr h => ?_
    refine ⟨_, (pss_cons (ps_for PassesOwn.never rfl (RZ.pi_zipA rfl T.n_zip (pa_cons (pv 0) (pa_cons (pv 1) pa_nil))) (show PG _ _ (gTup K _ _) from (pg_tup rfl (pgs_cons (pg_name (i := 2) sc.nd rfl (Or.inl rfl)) (pgs_cons (pg_name (i := 3) sc.nd rfl (Or.inl rfl)) pgs_nil))))
      (pss_cons (ps_if (pt_cmpR (show OpR _ _ (rNeD K) from (op_neD hr.units)) (pe_ix (show IxR _ (rIxT K) from ix_tup) (pv 2) pe_int (fun _ _ => rfl)) (pe_ix (show IxR _ (rIxT K) from ix_tup) (pv 3) pe_int (fun _ _ => rfl)) (nomark _)) (pss_one (ps_ret (pe_c c_is_less hr (by omega) rfl (pa_cons (pe_ix (show IxR _ (rIxT K) from ix_tup) (pv 2) pe_int (fun _ _ => rfl)) (pa_cons (pe_ix (show IxR _ (rIxT K) from ix_tup) (pv 3) pe_int (fun _ _ => rfl)) pa_nil))))) pss_nil)
      (pss_one (ps_if (pt_cmpR op_ne (pe_ix (show IxR _ (rIxT K) from ix_tup) (pv 2) pe_int (fun _ _ => rfl)) (pe_ix (show IxR _ (rIxT K) from ix_tup) (pv 3) pe_int (fun _ _ => rfl)) (nomark _)) (pss_one (ps_ret (pe_cmpR op_lt (pe_ix (show IxR _ (rIxT K) from ix_tup) (pv 2) pe_int (fun _ _ => rfl)) (pe_ix (show IxR _ (rIxT K) from ix_tup) (pv 3) pe_int (fun _ _ => rfl)) (nomark _)))) pss_nil))))
    (pss_one (ps_ret (pe_cmpR op_lt (pe_callB (show CallR _ _ (rLenS K) from call_len_seq) rfl T.n_len b_len (pa_cons (pv 0) pa_nil)) (pe_callB (show CallR _ _ (rLenS K) from call_len_seq) rfl T.n_len b_len (pa_cons (pv 1) pa_nil)) (nomark _))))), ?_⟩
    obtain ⟨ds, d, ⟨a, b, ha, hb, hn, rfl, rfl⟩, hv, q⟩ := h
    obtain ⟨va, vb, rfl, h1, h2⟩ := dpa_two hv
    show (_ : TS) _ [some va, some vb, none, none] H
    refine s_forZ (ds := a.ds) (es := b.ds) (eda_2 (ed_var rfl h1) (ed_var rfl h2)) (fun H1 i σ' H' => ∃ x y, σ' = [some va, some vb, x, y] ∧ Ex H1 H' ∧ Lad.less a b = Lad.less (a.drop i) (b.drop i))
      (fun H1 e => ⟨none, none, rfl, Ex.refl _, by cases a <;> cases b <;> rfl⟩) (fun H1 i σ' H' ⟨_, _, _, e, _⟩ => e) ?_ ?_
    · rintro H1 e1 i d d' x σ' H0 H' hd hd' hx ⟨u, v, rfl, e2, hl⟩ e3
      obtain ⟨p, hp, rfl⟩ := ds_get hd
      obtain ⟨p', hp', rfl⟩ := ds_get hd'
      have dp := dep_get hp
      have dp' := dep_get hp'
      rw [Lad.drop_get hp, Lad.drop_get hp'] at hl
      refine g_two hx fun w1 w2 g1 g2 => ?_
      show (_ : TS) _ [some va, some vb, some w1, some w2] H'
      have E1 := e1.trans (e2.trans e3)
      refine q_when (et_test (ev_neD (d := p.1.d) (d' := p'.1.d) (ed_at (i := 0) (ed_var rfl g1) rfl) (ed_at (i := 0) (ed_var rfl g2) rfl) (shaped_lad (by omega)) (shaped_lad (by omega)))) (fun hne H2 e4 => ?_) fun heq H2 e4 => ?_
      · rw [Lad.eqv] at hne
        have ne : ¬ p.1 = p'.1 := by simpa using hne
        refine s_retD (ed_call (d := .bool (Lad.less p.1 p'.1)) (eda_2 (d := p.1.d) (d' := p'.1.d) (ed_at (i := 0) (ed_var rfl (dp_ex e4 g1)) rfl) (ed_at (i := 0) (ed_var rfl (dp_ex e4 g2)) rfl)) (spd_of ⟨p.1, p'.1, by omega, by omega, by omega, rfl, rfl⟩)) fun v H3 e5 h3 => ?_
        refine q v H3 ((E1.trans e4).trans e5) ?_
        rw [hl, Lad.less, if_pos ne]
        exact h3
      · rw [Lad.eqv] at heq
        have eq : p.1 = p'.1 := by simpa using heq
        refine s_when (et_test (ev_op (ev_int (i := p.2) (ed_at (i := 1) (ed_var rfl (dp_ex e4 g1)) rfl)) (ev_int (i := p'.2) (ed_at (i := 1) (ed_var rfl (dp_ex e4 g2)) rfl)) (rv_ne rfl))) (fun hne H3 e5 => ?_) fun heq H3 e5 => ?_
        · have ne : ¬ p.2 = p'.2 := by simpa using hne
          refine s_ret (ev_op (ev_int (i := p.2) (ed_at (i := 1) (ed_var rfl (dp_ex (e4.trans e5) g1)) rfl)) (ev_int (i := p'.2) (ed_at (i := 1) (ed_var rfl (dp_ex (e4.trans e5) g2)) rfl)) rv_I0) fun H4 e6 => ?_
          refine q _ H4 (((E1.trans e4).trans e5).trans e6) ?_
          rw [hl, Lad.less, if_neg (not_not_intro eq), if_pos ne]
          exact .bl _
        · have eq2 : p.2 = p'.2 := by simpa using heq
          refine ⟨some w1, some w2, rfl, ((e2.trans e3).trans e4).trans e5, ?_⟩
          rw [hl, Lad.less, if_neg (not_not_intro eq), if_neg (not_not_intro eq2)]
    · rintro H1 e1 σ' H' ⟨u, v, rfl, e2, hl⟩
      refine s_ret (ev_op (ev_int (ed_cb (eda_1 (ed_var rfl (dp_ex (e1.trans e2) h1))) rc_lenT)) (ev_int (ed_cb (eda_1 (ed_var rfl (dp_ex (e1.trans e2) h2))) rc_lenT)) rv_I0) fun H4 e6 => ?_
      refine q _ H4 ((e1.trans e2).trans e6) ?_
      rw [Lad.ds_length, Lad.ds_length] at hl
      rw [hl, less_end, Lad.ds_length, Lad.ds_length]
      have e : decide ((a.len : Int) < (b.len : Int)) = decide (a.len < b.len) := by simp
      rw [e]
      exact .bl _

theorem ds_app : ∀ a b : Lad, (Lad.app a b).ds = a.ds ++ b.ds
  | .nil, b => rfl
  | .cons e m r, b => congrArg (_ :: ·) (ds_app r b)
theorem dep_mem : ∀ {a : Lad} {p : Lad × Int}, p ∈ a.toL → 1 + p.1.dep ≤ a.dep := fun {a p} h => by
  obtain ⟨i, hi⟩ := List.getElem?_of_mem h
  exact dep_get hi
/-- what may be reckoned with: of less than n levels, not too long -/
structure Sm (n : Nat) (a : Lad) : Prop where
  dep : a.dep < n
  parts : a.parts ≤ 10000
theorem Sm.len {n : Nat} {a : Lad} (h : Sm n a) : a.len ≤ 10000 := Nat.le_trans a.len_le_parts h.parts
def R2L (n : Nat) (f : Lad → Lad → Lad) (ds : List PyData) (d : PyData) : Prop := ∃ a b : Lad, Sm n a ∧ Sm n b ∧ n ≤ 30 ∧ ds = [a.d, b.d] ∧ d = (f a b).d
theorem R2L.len {n : Nat} {f : Lad → Lad → Lad} : ∀ ds d, R2L n f ds d → ds.length = 2 := fun ds d ⟨_, _, _, _, _, e, _⟩ => by rw [e]; rfl
theorem less_call {n k : Nat} {H : Hp} {a b : Lad} (ha : a.dep < n) (hb : b.dep < n) (hn : n ≤ 30) : SpD K (spR K (RLess n)) H [a.d, b.d] (.bool (Lad.less a b)) := spd_of ⟨a, b, ha, hb, hn, rfl, rfl⟩
theorem sum_same (e : Lad) (a : Lad) : ((a.toL.filter fun p => decide (p.1 = e)).map fun p => PyData.int p.2) = ((a.toL.filter fun p => decide (p.1 = e)).map (·.2)).map PyData.int := by rw [List.map_map]; rfl
theorem c_behind (T : Txt K mg aO aS B bI) (n : Nat) : Cal P w K mg base (n + 1) "behind" (spR K (R2L n Lad.behind)) := by
  have c_is_less := c_is_less (P := P) (w := w) (base := base) T n
  have sc : FnScope ["one", "other", "exponent", "many", "ahead", "alike", "pair"] ["one", "other"] (defScope (top 35)) := ⟨rfl, rfl, rfl, by decide +kernel, rfl, by decide +kernel, by decide +kernel⟩
  refine calD T.a_behind sc (spR_len R2L.len) (fun _ _ _ _ _ _ us hl => match us, hl with | [_, _], _ => rfl) fun f cdv A outer s H vs Q E hr h => ?_
  refine ⟨_, (pss_cons (ps_if (pt_cmpR (show OpR _ _ (rEqD K) from (op_eqD hr.units)) (pv 1) (pe_tup pa_nil) (nomark _)) (pss_one (ps_ret (pv 0))) pss_nil)
    (pss_cons (ps_asg (pe_ix (show IxR _ (rIxT K) from ix_tup) (pv 1) pe_int (fun _ _ => rfl)) (show PG _ _ (gTup K _ _) from (pg_tup rfl (pgs_cons (pg_name (i := 2) sc.nd rfl (Or.inr rfl)) (pgs_cons (pg_name (i := 3) sc.nd rfl (Or.inl rfl)) pgs_nil)))))
    (pss_cons (ps_setLc (i := 4) rfl sc.nd rfl rfl (sw_true rfl rfl rfl rfl) (show PI _ _ _ (iTup K _) from (pi_tup (pv 0))) (blkOk_by (N := ["one", "other", "exponent", "many", "ahead", "alike", "pair"]) (sc := (defScope (top 35))) (own := [("pair", 6)]) (by decide +kernel)) (fun _ _ _ _ _ => (pg_name (i := 6) sc.nd rfl (Or.inl rfl))) (fun _ _ _ _ _ => pts_one (pt_val (pe_c c_is_less hr (by omega) rfl (pa_cons (pv 2) (pa_cons (pe_ix (show IxR _ (rIxT K) from ix_tup) (pv 6) pe_int (fun _ _ => rfl)) pa_nil))))) (fun _ _ _ _ _ => (pv 6)))
    (pss_cons (ps_setLc (i := 5) rfl sc.nd rfl rfl (sw_true rfl rfl rfl rfl) (show PI _ _ _ (iTup K _) from (pi_tup (pv 0))) (blkOk_by (N := ["one", "other", "exponent", "many", "ahead", "alike", "pair"]) (sc := (defScope (top 35))) (own := [("pair", 6)]) (by decide +kernel)) (fun _ _ _ _ _ => (pg_name (i := 6) sc.nd rfl (Or.inl rfl))) (fun _ _ _ _ _ => pts_one (pt_cmpR (show OpR _ _ (rEqD K) from (op_eqD hr.units)) (pe_ix (show IxR _ (rIxT K) from ix_tup) (pv 6) pe_int (fun _ _ => rfl)) (pv 2) (nomark _))) (fun _ _ _ _ _ => (pe_ix (show IxR _ (rIxT K) from ix_tup) (pv 6) pe_int (fun _ _ => rfl))))
    (pss_one (ps_ret (pe_op op_catA (pe_op op_catA (pe_callTy call_tuple_of rfl T.n_tuple b_tuple (pa_cons (pv 4) pa_nil)) (pe_tup (pa_cons (pe_tup (pa_cons (pv 2) (pa_cons (pe_op op_add (pe_callB (cr_sum rfl) rfl T.n_sum b_sum (pa_cons (pv 5) pa_nil)) (pv 3)) pa_nil))) pa_nil))) (pe_slice sl_tupA (pv 1) (po_some pe_int) po_none)))))))), ?_⟩
  obtain ⟨ds, d, ⟨a, b, ha, hb, hn, rfl, rfl⟩, hv, q⟩ := h
  obtain ⟨va, vb, rfl, h1, h2⟩ := dpa_two hv
  show (_ : TS) _ [some va, some vb, none, none, none, none, none] H
  have hbd := hb.dep
  refine q_when (et_test (ev_eqD (d := b.d) (d' := .tuple []) (ed_var rfl h2) ed_nilT (shaped_lad (by omega)) shaped_nil)) (fun hne H1 e1 => ?_) fun heq H1 e1 => ?_
  · rw [eqv_lad_nil] at hne
    have e : b = .nil := by simpa using hne
    subst e
    exact s_retD (ed_var rfl (dp_ex e1 h1)) fun v H2 e2 hd => q v H2 (e1.trans e2) hd
  · rw [eqv_lad_nil] at heq
    cases b with
    | nil => simp at heq
    | cons e m r =>
      refine q_asgD (d := Lad.prD (e, m)) (ed_at (i := 0) (ed_var rfl (dp_ex e1 h2)) rfl) fun v H2 e2 hd => g_two hd fun w1 w2 g1 g2 => ?_
      show (_ : TS) _ [some va, some vb, some w1, some w2, none, none, none] H2
      have hde : 1 + e.dep ≤ (Lad.cons e m r).dep := by simp only [Lad.dep]; omega
      have hea := ha.dep
      refine q_asgD (d := .list ((a.toL.filter fun p => Lad.less e p.1).map Lad.prD)) (ed_lcT (enc := Lad.prD) (out := Lad.prD) (ls := a.toL) (f := fun p => Lad.less e p.1) (by rw [← Lad.ds_toL]; exact ed_var rfl (dp_ex (e1.trans e2) h1)) (by rw [Lad.toL_length]; have := ha.len; omega) (fun _ _ _ => nol_lpr _)
        fun p hp v H3 e3 hd R k => k [some va, some vb, some w1, some w2, none, none, some v] H3 (Ex.refl _) rfl (et_B (ev_bl (ed_call (eda_2 (d := e.d) (d' := p.1.d) (ed_var rfl (dp_ex e3 g1)) (ed_at (i := 0) (ed_var rfl hd) rfl)) (less_call (k := n) (by omega) (by have := dep_mem hp; omega) hn)))) fun _ => ed_var rfl hd) fun vh H3 e3 hh => ?_
      show (_ : TS) _ [some va, some vb, some w1, some w2, some vh, none, none] H3
      refine q_asgD (d := .list ((a.toL.filter fun p => decide (p.1 = e)).map fun p => PyData.int p.2)) (ed_lcT (enc := Lad.prD) (out := fun p => .int p.2) (ls := a.toL) (f := fun p => decide (p.1 = e)) (by rw [← Lad.ds_toL]; exact ed_var rfl (dp_ex ((e1.trans e2).trans e3) h1)) (by rw [Lad.toL_length]; have := ha.len; omega) (fun _ _ _ => rfl)
        fun p hp v H4 e4 hd R k => k [some va, some vb, some w1, some w2, some vh, none, some v] H4 (Ex.refl _) rfl (et_is (et_test (ev_eqD (d := p.1.d) (d' := e.d) (ed_at (i := 0) (ed_var rfl hd) rfl) (ed_var rfl (dp_ex (e3.trans e4) g1)) (shaped_lad (by have := dep_mem hp; omega)) (shaped_lad (by omega)))) (Lad.eqv _ _)) fun _ => ed_at (i := 1) (ed_var rfl hd) rfl) fun vi H4 e4 hi => ?_
      show (_ : TS) _ [some va, some vb, some w1, some w2, some vh, some vi, none] H4
      rw [sum_same] at hi
      have l1 : ((a.toL.filter fun p => Lad.less e p.1).map Lad.prD).length ≤ 10000 := by
        rw [List.length_map]
        have := List.length_filter_le (fun p : Lad × Int => Lad.less e p.1) a.toL
        have := ha.len
        have := a.toL_length
        omega
      have l2 : (Lad.cons e m r).ds.length ≤ 10000 := by rw [Lad.ds_length]; exact hb.len
      refine s_retD (ed_catT (ds := ((a.toL.filter fun p => Lad.less e p.1).map Lad.prD) ++ [Lad.prD (e, Lad.same e a + m)]) (es := (Lad.cons e m r).ds.drop 1) (ed_catT (ed_cb (eda_1 (ed_var rfl (dp_ex e4 hh))) rc_tupL) (ed_tup (eda_1 (ed_tup (eda_2 (d := e.d) (d' := .int (Lad.same e a + m)) (ed_var rfl (dp_ex (e3.trans e4) g1))
        (ed_int (ev_op (ev_int (ed_cb (eda_1 (ed_var rfl hi)) rc_sum)) (ev_int (ed_var rfl (dp_ex (e3.trans e4) g2))) rv_I0))) sz2)) sz1) (by simp only [List.length_singleton]; omega)) (ed_slT (i := 1) (ed_var rfl (dp_ex (((e1.trans e2).trans e3).trans e4) h2)) (ed_int ev_c) (by rw [Lad.ds_length, Lad.len]; omega)) (by rw [List.length_append, List.length_drop]; simp only [List.length_singleton]; omega)) fun v H5 e5 hd => ?_
      refine q v H5 ((((e1.trans e2).trans e3).trans e4).trans e5) ?_
      have ed : (Lad.behind a (.cons e m r)).d = .tuple ((((a.toL.filter fun p => Lad.less e p.1).map Lad.prD) ++ [Lad.prD (e, Lad.same e a + m)]) ++ (Lad.cons e m r).ds.drop 1) := by
        show PyData.tuple (Lad.app (Lad.gt e a) (.cons e (Lad.same e a + m) r)).ds = _
        rw [ds_app, Lad.gt, Lad.ofL_ds, List.append_assoc]
        rfl
      rw [ed]
      exact hd

def expAt (a : Lad) (j : Nat) : Lad := ((a.toL[j]?).map (·.1)).getD .nil
theorem drop_succ_cons {a : Lad} {i : Nat} {p : Lad × Int} (h : a.toL[i]? = some p) : a.drop i = .cons p.1 p.2 (a.drop (i + 1)) := Lad.drop_get h
theorem ofL_snoc (l : List (Lad × Int)) (p : Lad × Int) (b : Lad) : Lad.app (Lad.ofL (l ++ [p])) b = Lad.app (Lad.ofL l) (.cons p.1 p.2 b) := by
  rw [Lad.app_ofL, Lad.app_ofL, List.append_assoc]
  rfl
theorem both_skip {e : Lad} {m : Int} {r : Lad} {p : Lad × Int} {t : Lad} (h : Lad.less e p.1 = true) : Lad.both (.cons p.1 p.2 t) (.cons e m r) = .cons p.1 p.2 (Lad.both t (.cons e m r)) := by
  rw [Lad.both, if_pos h]
theorem both_same {e : Lad} {m : Int} {r : Lad} {p : Lad × Int} {t : Lad} (h : ¬ Lad.less e p.1 = true) (h2 : p.1 = e) : Lad.both (.cons p.1 p.2 t) (.cons e m r) = .cons e (p.2 + m) (Lad.both t r) := by
  rw [Lad.both, if_neg h, if_pos h2]
theorem both_take {e : Lad} {m : Int} {r : Lad} {a : Lad} (h : ∀ (p : Lad × Int) t, a = .cons p.1 p.2 t → ¬ Lad.less e p.1 = true ∧ ¬ p.1 = e) : Lad.both a (.cons e m r) = .cons e m (Lad.both a r) := by
  cases a with
  | nil =>
    rw [Lad.both]
    cases r <;> simp [Lad.both]
  | cons e1 m1 r1 =>
    obtain ⟨h1, h2⟩ := h (e1, m1) r1 rfl
    rw [Lad.both, if_neg h1, if_neg h2]
theorem both_nil (a : Lad) : Lad.both a .nil = a := by cases a <;> simp [Lad.both]
theorem both_nil_left (b : Lad) : Lad.both .nil b = b := by cases b <;> simp [Lad.both]
/-- the loop's word: behind i of b and j of a, done lies in the list at L -/
structure BothP (K : KK) (a b : Lad) (va vb : V) (H0 : Hp) (rest : Lad) (i : Nat) (σ : L2.St) (H : Hp) (L : Addr) (j : Nat) (done : List (Lad × Int)) (x y : Option V) : Prop where
  sl : σ = [some va, some vb, some (.ref L), some (.int j), x, y]
  fr : H0 L = none
  ex : Ex H0 H
  ls : LstAt K H L (done.map Lad.prD)
  ja : j ≤ a.len
  dn : done.length ≤ i + j
  eq : Lad.both a b = Lad.app (Lad.ofL done) (Lad.both (a.drop j) rest)
theorem at_lt {a : Lad} {j : Nat} (h : j < a.len) : ∃ p, a.toL[j]? = some p := ⟨_, List.getElem?_eq_getElem (by rw [Lad.toL_length]; exact h)⟩
theorem ds_at {a : Lad} {j : Nat} {p : Lad × Int} (h : a.toL[j]? = some p) : a.ds[j]? = some (Lad.prD p) := by rw [Lad.ds_toL, List.getElem?_map, h]; rfl
theorem noLs_prs (l : List (Lad × Int)) : noLs (l.map Lad.prD) = true := noLs_map nol_lpr
theorem map_snoc {α β : Type} (f : α → β) (l : List α) (a : α) : (l ++ [a]).map f = l.map f ++ [f a] := by rw [List.map_append]; rfl
theorem c_both (T : Txt K mg aO aS B bI) (n : Nat) : Cal P w K mg base (n + 1) "both" (spR K (R2L n Lad.both)) := by
  have c_is_less := c_is_less (P := P) (w := w) (base := base) T n
  have sc : FnScope ["one", "other", "found", "at", "exponent", "many"] ["one", "other"] (defScope (top 36)) := ⟨rfl, rfl, rfl, by decide +kernel, rfl, by decide +kernel, by decide +kernel⟩
  refine calD T.a_both sc (spR_len R2L.len) (fun _ _ _ _ _ _ us hl => match us, hl with | [_, _], _ => rfl) fun f cdv A outer s H vs Q E hr h => ?_
  refine ⟨_, (pss_cons (ps_set (i := 2) sc.nd rfl (Or.inl rfl) (pe_lst pa_nil))
    (pss_cons (ps_set (i := 3) sc.nd rfl (Or.inl rfl) pe_int)
    (pss_cons (ps_for PassesOwn.never rfl (show PI _ _ _ (iTup K _) from (pi_tup (pv 1))) (show PG _ _ (gTup K _ _) from (pg_tup rfl (pgs_cons (pg_name (i := 4) sc.nd rfl (Or.inl rfl)) (pgs_cons (pg_name (i := 5) sc.nd rfl (Or.inl rfl)) pgs_nil))))
      (pss_cons (ps_while PassesOwn.never (pt_bool (pw_and (pt_cmpR op_lt (pv 3) (pe_callB (show CallR _ _ (rLenS K) from call_len_seq) rfl T.n_len b_len (pa_cons (pv 0) pa_nil)) (nomark _)) (pw_and1 (pt_val (pe_c c_is_less hr (by omega) rfl (pa_cons (pv 4) (pa_cons (pe_ix (show IxR _ (rIxT K) from ix_tup) (pe_ix (show IxR _ (rIxT K) from ix_tup) (pv 0) (pv 3) (fun _ _ => rfl)) pe_int (fun _ _ => rfl)) pa_nil)))))))
        (pss_cons (ps_expr (show PE _ _ (tBM K _ _ _ _) from (pe_bm PySem.F.plainAttrs_list PySem.F.slot_list_append PySem.F.type_list_append mt_append (pv 2) (pa_cons (pe_ix (show IxR _ (rIxT K) from ix_tup) (pv 0) (pv 3) (fun _ _ => rfl)) pa_nil))))
        (pss_one (ps_set (i := 3) sc.nd rfl (Or.inl rfl) (pe_op op_add (pv 3) pe_int)))))
      (pss_one (ps_if (pt_bool (pw_and (pt_cmpR op_lt (pv 3) (pe_callB (show CallR _ _ (rLenS K) from call_len_seq) rfl T.n_len b_len (pa_cons (pv 0) pa_nil)) (nomark _)) (pw_and1 (pt_cmpR (show OpR _ _ (rEqD K) from (op_eqD hr.units)) (pe_ix (show IxR _ (rIxT K) from ix_tup) (pe_ix (show IxR _ (rIxT K) from ix_tup) (pv 0) (pv 3) (fun _ _ => rfl)) pe_int (fun _ _ => rfl)) (pv 4) (nomark _))))) (pss_cons (ps_expr (show PE _ _ (tBM K _ _ _ _) from (pe_bm PySem.F.plainAttrs_list PySem.F.slot_list_append PySem.F.type_list_append mt_append (pv 2) (pa_cons (pe_tup (pa_cons (pv 4) (pa_cons (pe_op op_add (pe_ix (show IxR _ (rIxT K) from ix_tup) (pe_ix (show IxR _ (rIxT K) from ix_tup) (pv 0) (pv 3) (fun _ _ => rfl)) pe_int (fun _ _ => rfl)) (pv 5)) pa_nil))) pa_nil))))
        (pss_one (ps_set (i := 3) sc.nd rfl (Or.inl rfl) (pe_op op_add (pv 3) pe_int)))) (pss_one (ps_expr (show PE _ _ (tBM K _ _ _ _) from (pe_bm PySem.F.plainAttrs_list PySem.F.slot_list_append PySem.F.type_list_append mt_append (pv 2) (pa_cons (pe_tup (pa_cons (pv 4) (pa_cons (pv 5) pa_nil))) pa_nil)))))))))
    (pss_one (ps_ret (pe_op op_catA (pe_callTy call_tuple_of rfl T.n_tuple b_tuple (pa_cons (pv 2) pa_nil)) (pe_slice sl_tupA (pv 0) (po_some (pv 3)) po_none))))))), ?_⟩
  obtain ⟨ds, d, ⟨a, b, ha, hb, hn, rfl, rfl⟩, hv, q⟩ := h
  obtain ⟨va, vb, rfl, h1, h2⟩ := dpa_two hv
  show (_ : TS) _ [some va, some vb, none, none, none, none] H
  have hal := ha.len
  have hbl := hb.len
  have had := ha.dep
  have hbd := hb.dep
  refine q_newL (K := K) fun L HL hL eL lL => ?_
  show (_ : TS) _ [some va, some vb, some (.ref L), none, none, none] HL
  refine q_asg ev_c fun H0 e0 => ?_
  show (_ : TS) _ [some va, some vb, some (.ref L), some (.int (0 : Nat)), none, none] H0
  have h1' := dp_ex (eL.trans e0) h1
  refine s_forTD (D := { nx := _, rt := _, bk := _, ct := _ }) (ds := b.ds) (ed_var rfl (dp_ex (eL.trans e0) h2)) (nol_lads b) (fun H1 i σ' H' => Tx H1 H' ∧ ∃ j done x y, BothP K a b va vb H (b.drop i) i σ' H' L j done x y)
    (fun H1 e1 => ⟨.refl _, 0, [], none, none, rfl, hL, (eL.trans e0).trans e1, (lL.ex e0).ex e1, Nat.zero_le _, Nat.zero_le _, by cases a <;> cases b <;> rfl⟩) (fun H1 i σ' H' p => p.1) ?_ ?_
  · rintro H1 e1 i d x σ' H' hd hx ⟨t1, j, done, x0, y0, p⟩
    obtain ⟨⟨e, m⟩, hp, rfl⟩ := ds_get hd
    have hde : 1 + e.dep ≤ b.dep := dep_get hp
    have hi : i < b.len := by rw [← Lad.toL_length]; exact (List.getElem?_eq_some_iff.mp hp).1
    have pe := p.eq
    rw [Lad.drop_get hp] at pe
    have hsl := p.sl
    subst hsl
    refine g_two hx fun w1 w2 g1 g2 => ?_
    show (_ : TS) _ [some va, some vb, some (.ref L), some (.int j), some w1, some w2] H'
    refine q_while (fun mm σ2 H2 => Tx H' H2 ∧ ∃ j done, mm = a.len - j ∧ BothP K a b va vb H (.cons e m (b.drop (i + 1))) i σ2 H2 L j done (some w1) (some w2)) (a.len - j) ⟨.refl _, j, done, rfl, rfl, p.fr, p.ex, p.ls, p.ja, p.dn, pe⟩ ?_
    rintro mm σ2 H2 ⟨t2, j, done, rfl, p⟩
    have hsl := p.sl
    subst hsl
    have pja := p.ja
    have ga := dp_ex p.ex h1
    have g1 := dp_tx t2 (nol_lad e) g1
    have g2 : w2 = .int m := dp_int g2
    subst g2
    have lenE : ∀ {σ : L2.St} {H3 : Hp}, σ[0]? = some (some va) → Ex H2 H3 → Ev (tCB (rLenS K) (tCons (tVar 0) tNil)) σ H3 (.int (a.len : Int)) := fun hs e3 => ev_is (ev_int (ed_cb (eda_1 (ed_var hs (dp_ex e3 ga))) rc_lenT)) (by rw [Lad.ds_length])
    have lt_ev : ∀ {σ : L2.St} {H3 : Hp}, σ[0]? = some (some va) → σ[3]? = some (some (.int (j : Int))) → Ex H2 H3 → EvT (tTest (tOp (rI0 fun i j => .bl (decide (i < j))) (tVar 3) (tCB (rLenS K) (tCons (tVar 0) tNil)))) σ H3 (decide (j < a.len)) := fun hs hj e3 =>
      et_is (et_test (ev_op (ev_var hj) (lenE hs e3) rv_I0)) (by simp)
    refine ⟨decide (j < a.len) && Lad.less e (expAt a j), et_and (lt_ev rfl rfl (Ex.refl _)) (fun hb => et_B (ev_bl (K := K) ?_)), fun hb H3 e3 => ?_, fun hb H3 e3 => ?_⟩
    · obtain ⟨p', hp'⟩ := at_lt (of_decide_eq_true hb)
      have ee : expAt a j = p'.1 := by simp [expAt, hp']
      rw [ee]
      exact ed_call (eda_2 (d := e.d) (d' := p'.1.d) (ed_var rfl g1) (ed_at (i := 0) (ed_ixT (d := Lad.prD p') (ed_var rfl ga) (ed_int (ev_var rfl)) (atI_n (ds_at hp'))) rfl)) (less_call (k := n) (by omega) (by have := dep_get hp'; omega) hn)
    · obtain ⟨hb1, hb2⟩ := Bool.and_eq_true_iff.mp hb
      obtain ⟨p', hp'⟩ := at_lt (of_decide_eq_true hb1)
      have ee : expAt a j = p'.1 := by simp [expAt, hp']
      rw [ee] at hb2
      have hj : j < a.len := of_decide_eq_true hb1
      refine ⟨fun σ4 H4 => Tx H' H4 ∧ ∃ done, BothP K a b va vb H (.cons e m (b.drop (i + 1))) i σ4 H4 L (j + 1) done (some w1) (some (.int m)), fun σ4 H4 ⟨t, dn, p4⟩ => ⟨a.len - (j + 1), by omega, t, j + 1, dn, rfl, p4⟩, ?_⟩
      refine q_appD (p.ls.ex e3) (noLs_prs _) (nol_lpr p') (fun _ _ => ev_var rfl) (ed_ixT (d := Lad.prD p') (ed_var rfl (dp_ex e3 ga)) (ed_int (ev_var rfl)) (atI_n (ds_at hp'))) (by rw [List.length_map]; have := p.dn; omega) fun H4 m4 l4 => ?_
      refine s_asg (ev_op (ev_var rfl) ev_c rv_I0) fun H5 e5 => ?_
      refine ⟨((t2.trans (tx_ex e3)).trans ((p.ls.ex e3).tx m4)).trans (tx_ex e5), done ++ [p'], rfl, p.fr, (m4.base p.fr (p.ex.trans e3)).trans e5, ?_, hj, ?_, ?_⟩
      · rw [map_snoc]; exact l4.ex e5
      · rw [List.length_append]; have := p.dn; simp only [List.length_singleton]; omega
      · rw [ofL_snoc, ← both_skip hb2, ← Lad.drop_get hp']; exact p.eq
    · have ga3 := dp_ex e3 ga
      have g13 := dp_ex e3 g1
      have notskip : ∀ p', a.toL[j]? = some p' → ¬ Lad.less e p'.1 = true := fun p' hp' h => by
        have ee : expAt a j = p'.1 := by simp [expAt, hp']
        have hj : j < a.len := by rw [← Lad.toL_length]; exact (List.getElem?_eq_some_iff.mp hp').1
        rw [ee, h, decide_eq_true hj] at hb
        cases hb
      refine s_ifD (b := decide (j < a.len) && decide (expAt a j = e)) (et_and (lt_ev rfl rfl e3) fun hb1 => ?_) (fun hb1 H4 e4 => ?_) fun hb1 H4 e4 => ?_
      · obtain ⟨p', hp'⟩ := at_lt (of_decide_eq_true hb1)
        have ee : expAt a j = p'.1 := by simp [expAt, hp']
        rw [ee]
        exact et_is (et_test (ev_eqD (d := p'.1.d) (d' := e.d) (ed_at (i := 0) (ed_ixT (d := Lad.prD p') (ed_var rfl ga3) (ed_int (ev_var rfl)) (atI_n (ds_at hp'))) rfl) (ed_var rfl g13) (shaped_lad (by have := dep_get hp'; omega)) (shaped_lad (by omega)))) (Lad.eqv _ _)
      · obtain ⟨hb2, hb3⟩ := Bool.and_eq_true_iff.mp hb1
        obtain ⟨p', hp'⟩ := at_lt (of_decide_eq_true hb2)
        have ee : expAt a j = p'.1 := by simp [expAt, hp']
        rw [ee] at hb3
        have hj : j < a.len := of_decide_eq_true hb2
        have eqe : p'.1 = e := of_decide_eq_true hb3
        refine q_appD (d := Lad.prD (e, p'.2 + m)) ((p.ls.ex e3).ex e4) (noLs_prs _) (nol_lpr (e, p'.2 + m)) (fun _ _ => ev_var rfl) (ed_tup (eda_2 (d := e.d) (d' := .int (p'.2 + m)) (ed_var rfl (dp_ex e4 g13)) (ed_int (ev_op (ev_int (ed_at (i := 1) (ed_ixT (d := Lad.prD p') (ed_var rfl (dp_ex e4 ga3)) (ed_int (ev_var rfl)) (atI_n (ds_at hp'))) rfl)) (ev_var rfl) rv_I0))) sz2) (by rw [List.length_map]; have := p.dn; omega) fun H5 m5 l5 => ?_
        refine s_asg (ev_op (ev_var rfl) ev_c rv_I0) fun H6 e6 => ?_
        refine ⟨((((t1.trans t2).trans (tx_ex e3)).trans (tx_ex e4)).trans (((p.ls.ex e3).ex e4).tx m5)).trans (tx_ex e6), j + 1, done ++ [(e, p'.2 + m)], _, _, rfl, p.fr, (m5.base p.fr ((p.ex.trans e3).trans e4)).trans e6, ?_, hj, ?_, ?_⟩
        · rw [map_snoc]; exact l5.ex e6
        · rw [List.length_append]; have := p.dn; simp only [List.length_singleton]; omega
        · rw [ofL_snoc, ← both_same (notskip p' hp') eqe, ← Lad.drop_get hp']; exact p.eq
      · refine s_appD (d := Lad.prD (e, m)) ((p.ls.ex e3).ex e4) (noLs_prs _) (nol_lpr (e, m)) (fun _ _ => ev_var rfl) (ed_tup (eda_2 (d := e.d) (d' := .int m) (ed_var rfl (dp_ex e4 g13)) (ed_int (ev_var rfl))) sz2) (by rw [List.length_map]; have := p.dn; omega) fun H5 m5 l5 => ?_
        refine ⟨(((t1.trans t2).trans (tx_ex e3)).trans (tx_ex e4)).trans (((p.ls.ex e3).ex e4).tx m5), j, done ++ [(e, m)], _, _, rfl, p.fr, m5.base p.fr ((p.ex.trans e3).trans e4), ?_, p.ja, ?_, ?_⟩
        · rw [map_snoc]; exact l5
        · rw [List.length_append]; have := p.dn; simp only [List.length_singleton]; omega
        · rw [ofL_snoc, ← both_take, p.eq]
          intro p' t ht
          have hj : j < a.len := by
            rcases Nat.lt_or_ge j a.len with h | h
            · exact h
            · rw [Lad.drop_end h] at ht; cases ht
          obtain ⟨p2, hp2⟩ := at_lt hj
          rw [Lad.drop_get hp2] at ht
          have e0 : p2.1 = p'.1 := by injection ht
          rw [← e0]
          refine ⟨notskip p2 hp2, fun h => ?_⟩
          have ee : expAt a j = p2.1 := by simp [expAt, hp2]
          rw [ee, decide_eq_true hj, decide_eq_true h] at hb1
          cases hb1
  · rintro H1 e1 σ' H' ⟨t1, j, done, x0, y0, p⟩
    have hsl := p.sl
    subst hsl
    have pe := p.eq
    rw [Lad.ds_length, Lad.drop_end (Nat.le_refl _), both_nil] at pe
    have ga := dp_ex p.ex h1
    have pdn := p.dn
    rw [Lad.ds_length] at pdn
    refine s_retD (ed_catT (ds := done.map Lad.prD) (es := a.ds.drop j) (ed_cb (eda_1 (ed_var rfl p.ls.dp)) rc_tupL) (ed_slT (i := j) (ed_var rfl ga) (ed_int (ev_var rfl)) (by rw [Lad.ds_length]; exact p.ja)) (by rw [List.length_map, List.length_drop, Lad.ds_length]; have := p.ja; omega)) fun v H2 e2 hd => ?_
    refine q v H2 (p.ex.trans e2) ?_
    have ed : (Lad.both a b).d = .tuple (done.map Lad.prD ++ a.ds.drop j) := by
      rw [pe]
      show PyData.tuple (Lad.app (Lad.ofL done) (a.drop j)).ds = _
      rw [ds_app, Lad.ofL_ds, Lad.ds_toL (a.drop j), Lad.drop_toL, List.map_drop, ← Lad.ds_toL]
    rw [ed]
    exact hd
end
end Fell

/-! FM3 -/
set_option autoImplicit false
set_option linter.all false
/-! Plain Lean: sorts of ladders. -/
namespace Fell
open PySem
namespace Lad
def headE : Lad → Lad
  | nil => nil
  | cons e _ _ => e
def headM : Lad → Int
  | nil => 0
  | cons _ m _ => m
def counted (a : Lad) : Bool := decide (a = nil) || (decide (a.len = 1) && decide (a.headE = nil))
def exps (a : Lad) : List Lad := a.toL.map (·.1)
def sortOf (a : Lad) : Str :=
  if (a.exps.all fun e => decide (e = nil)) = true then ("number" : Str)
  else if (a.exps.all fun e => !less one e) = true then ("pair" : Str)
  else if (a.exps.all counted) = true then ("power" : Str) else ("tower" : Str)
def big (e : Lad) : Bool := !decide (e = nil) && (decide (1 < e.len) || !decide (e.headE = nil))
def c2 (e : Lad) : Bool := !decide (e = nil) && decide (1 < e.headM)
def c3 (f : Str) (e : Lad) : Bool := !decide (e = nil) && decide (f = "number")
def step1 (f : Str) (e : Lad) : Str := if c2 e = true then ("power" : Str) else f
def step2 (f : Str) (e : Lad) : Str := if c3 f e = true then ("pair" : Str) else f
def word : Str → Lad → Str
  | f, nil => f
  | f, cons e _ r => if big e = true then ("tower" : Str) else word (step2 (step1 f e) e) r
/-- exponents that are no number's: with more than one pair, or with an exponent of their own -/
theorem big_counted (e : Lad) : big e = !counted e := by
  cases e with
  | nil => rfl
  | cons x m r =>
    have h1 : (Lad.cons x m r).len = 1 + r.len := rfl
    have h2 : (Lad.cons x m r).headE = x := rfl
    unfold big counted
    rw [h1, h2]
    by_cases hx : x = nil
    · by_cases hr : r.len = 0
      · simp [hx, hr]
      · have : 1 < 1 + r.len := by omega
        simp [hx, this, hr]
    · simp [hx]
/-- a counted one with manys of 1 and more: nought, one, more than one -/
theorem counted_cases {e : Lad} (h : counted e = true) (hp : e.pos) : e = nil ∨ e = one ∨ ∃ m, 1 < m ∧ e = cons nil m nil := by
  cases e with
  | nil => exact .inl rfl
  | cons x m r =>
    have hc : (Lad.cons x m r).len = 1 ∧ x = nil := by
      have h0 : (decide (Lad.cons x m r = nil) || (decide ((Lad.cons x m r).len = 1) && decide (x = nil))) = true := h
      rw [decide_eq_false (fun e => nomatch e), Bool.false_or, Bool.and_eq_true] at h0
      exact ⟨of_decide_eq_true h0.1, of_decide_eq_true h0.2⟩
    have hr : r = nil := by
      cases r with
      | nil => rfl
      | cons => simp [len] at hc
    obtain ⟨_, rfl⟩ := hc
    subst hr
    have hm := hp.2.1
    by_cases e1 : m = 1
    · subst e1; exact .inr (.inl rfl)
    · exact .inr (.inr ⟨m, by omega, rfl⟩)
theorem less_one_counted {e : Lad} (h : counted e = true) (hp : e.pos) : less one e = c2 e := by
  rcases counted_cases h hp with rfl | rfl | ⟨m, hm, rfl⟩
  · rfl
  · rfl
  · simp only [one, less, c2, headM]
    have h1 : ¬ (1 = m) := by omega
    simp [h1, hm]
theorem less_one_big {e : Lad} (h : big e = true) (hp : e.pos) : less one e = true := by
  cases e with
  | nil => simp [big] at h
  | cons x m r =>
    have hm := hp.2.1
    simp only [one, less]
    by_cases hx : x = nil
    · subst hx
      have hl : 0 < r.len := by
        have : 1 < (Lad.cons nil m r).len := by simpa [big, headE] using h
        simp [len] at this; omega
      by_cases h1 : 1 = m
      · subst h1
        cases r with
        | nil => simp [len] at hl
        | cons => simp [less]
      · have h2 : 1 < m := by omega
        simp [h1, h2]
    · have h2 : ¬ nil = x := fun e => hx e.symm
      simp [h2]
      cases x with
      | nil => exact absurd rfl hx
      | cons => rfl
theorem word_tower : ∀ {a : Lad} {f : Str}, (∃ e ∈ a.exps, big e = true) → word f a = "tower"
  | nil, f, h => by obtain ⟨e, he, _⟩ := h; cases he
  | cons x m r, f, h => by
    unfold word
    by_cases hb : big x = true
    · rw [if_pos hb]
    · rw [if_neg hb]
      refine word_tower ?_
      obtain ⟨e, he, h⟩ := h
      rcases List.mem_cons.mp he with rfl | he
      · exact absurd h hb
      · exact ⟨e, he, h⟩
def sel (p q : Bool) : Str := if p = true then ("power" : Str) else if q = true then ("pair" : Str) else ("number" : Str)
def ne (e : Lad) : Bool := !decide (e = nil)
/-- no tower: what the words come to -/
theorem word_low : ∀ {a : Lad} {f : Str}, (∀ e ∈ a.exps, big e = false) → (f = "number" ∨ f = "pair" ∨ f = "power") →
    word f a = sel (decide (f = "power") || a.exps.any c2) (decide (f = "pair") || a.exps.any ne)
  | nil, f, _, hf => by
    unfold word
    rcases hf with rfl | rfl | rfl <;> decide
  | cons x m r, f, h, hf => by
    have hb : ¬ big x = true := by rw [h x List.mem_cons_self]; decide
    have hr : ∀ e ∈ r.exps, big e = false := fun e he => h e (List.mem_cons_of_mem _ he)
    have hx2 : c2 x = true → x ≠ nil := fun hc => by simp [c2] at hc; exact hc.1
    have ee : (cons x m r).exps = x :: r.exps := rfl
    have d1 : decide (("power" : Str) = "number") = false := by decide
    have d2 : decide (("power" : Str) = "pair") = false := by decide
    have d3 : decide (("number" : Str) = "pair") = false := by decide
    have d4 : decide (("number" : Str) = "power") = false := by decide
    have d5 : decide (("pair" : Str) = "power") = false := by decide
    have d6 : decide (("pair" : Str) = "number") = false := by decide
    unfold word
    rw [if_neg hb, ee, List.any_cons, List.any_cons]
    by_cases hc : c2 x = true
    · have e1 : step1 f x = "power" := by unfold step1; rw [if_pos hc]
      have e2 : step2 "power" x = "power" := by
        unfold step2
        rw [if_neg]
        simp [c3, d1]
      rw [e1, e2, word_low hr (.inr (.inr rfl)), hc]
      simp [sel]
    · have e1 : step1 f x = f := by unfold step1; rw [if_neg hc]
      have hc' : c2 x = false := by simpa using hc
      rw [e1, hc']
      by_cases hn : x = nil
      · have e2 : step2 f x = f := by unfold step2; rw [if_neg]; simp [c3, hn]
        have e3 : ne x = false := by simp [ne, hn]
        rw [e2, word_low hr hf, e3]
        simp
      · have e3 : ne x = true := by simp [ne, hn]
        rcases hf with rfl | rfl | rfl
        · have e2 : step2 "number" x = "pair" := by unfold step2; rw [if_pos]; simp [c3, hn]
          rw [e2, word_low hr (.inr (.inl rfl)), e3, d4, d5]
          simp
        · have e2 : step2 "pair" x = "pair" := by unfold step2; rw [if_neg]; simp [c3, d6]
          rw [e2, word_low hr (.inr (.inl rfl)), e3]
          simp
        · have e2 : step2 "power" x = "power" := by unfold step2; rw [if_neg]; simp [c3, d1]
          rw [e2, word_low hr (.inr (.inr rfl)), e3]
          simp [sel]
theorem exps_pos : ∀ {a : Lad}, a.pos → ∀ e ∈ a.exps, e.pos
  | nil, _, e, he => nomatch he
  | cons x m r, h, e, he => by
    rcases List.mem_cons.mp he with rfl | he
    · exact h.1
    · exact exps_pos h.2.2 e he
/-- the law's look is the program's -/
theorem sort_word {a : Lad} (h : a.pos) : sortOf a = word "number" a := by
  have hp := exps_pos h
  unfold sortOf
  by_cases ht : ∃ e ∈ a.exps, big e = true
  · rw [word_tower ht]
    obtain ⟨e, he, hb⟩ := ht
    have hl := less_one_big hb (hp e he)
    have hn : ¬ e = nil := by simp [big] at hb; exact hb.1
    rw [if_neg, if_neg, if_neg]
    · rw [List.all_eq_true]
      intro h
      have := h e he
      rw [big_counted, this] at hb
      cases hb
    · rw [List.all_eq_true]
      intro h
      have := h e he
      rw [hl] at this
      cases this
    · rw [List.all_eq_true]
      intro h
      exact hn (of_decide_eq_true (h e he))
  · have hb : ∀ e ∈ a.exps, big e = false := fun e he => by
      cases hq : big e with
      | true => exact absurd ⟨e, he, hq⟩ ht
      | false => rfl
    have hcn : ∀ e ∈ a.exps, counted e = true := fun e he => by
      have := hb e he
      rw [big_counted] at this
      simpa using this
    rw [word_low hb (.inl rfl)]
    have d4 : decide (("number" : Str) = "power") = false := by decide
    have d3 : decide (("number" : Str) = "pair") = false := by decide
    rw [d3, d4, Bool.false_or, Bool.false_or]
    have e2 : (a.exps.all fun e => !less one e) = !a.exps.any c2 := by
      rw [List.not_any_eq_all_not]
      rw [Bool.eq_iff_iff, List.all_eq_true, List.all_eq_true]
      constructor
      · intro h x hx
        have := h x hx
        rw [less_one_counted (hcn x hx) (hp x hx)] at this
        exact this
      · intro h x hx
        rw [less_one_counted (hcn x hx) (hp x hx)]
        exact h x hx
    have e3 : (a.exps.all fun e => decide (e = nil)) = !a.exps.any ne := by
      rw [List.not_any_eq_all_not]
      refine congrArg (fun f => a.exps.all f) (funext fun e => ?_)
      simp [ne]
    have e4 : a.exps.all counted = true := by rw [List.all_eq_true]; exact hcn
    have e5 : a.exps.any c2 = true → a.exps.any ne = true := fun h => by
      obtain ⟨e, he, hc⟩ := List.any_eq_true.mp h
      refine List.any_eq_true.mpr ⟨e, he, ?_⟩
      simp [c2] at hc
      simp [ne, hc.1]
    rw [e2, e3, e4]
    unfold sel
    cases h1 : a.exps.any c2 with
    | true => rw [e5 h1]; rfl
    | false => cases a.exps.any ne <;> rfl
end Lad
end Fell

/-! FP2 -/
set_option Elab.async false
set_option linter.all false
set_option maxRecDepth 100000
set_option maxHeartbeats 4000000
/-! The ladders' defs, walked, 2. -/
namespace Fell
open PySem PySem.Spec PyProof.Rows L2 Evl
section
variable {P : Program} {w : World} {K : KK} {mg : Str → Option Value} {base : Heap} {aO aS B bI : Addr}
theorem filter_all {α : Type} (l : List α) : (l.filter fun _ => true) = l := List.filter_eq_self.mpr fun _ _ => rfl
theorem all_bools {α : Type} (l : List α) (g : α → Bool) : (l.map fun a => PyData.bool (g a)) = (l.map g).map PyData.bool := by rw [List.map_map]; rfl
theorem all_id {α : Type} (l : List α) (g : α → Bool) : (l.map g).all id = l.all g := by rw [List.all_map]; rfl
theorem any_id {α : Type} (l : List α) (g : α → Bool) : (l.map g).any id = l.any g := by rw [List.any_map]; rfl
def RMany (n : Nat) (ds : List PyData) (d : PyData) : Prop := ∃ (a : Lad) (k : Int), Sm n a ∧ (0 ≤ k ∧ k ≤ 1000000000) ∧ ds = [a.d, .int k] ∧ d = (Lad.manyOf a k).d
theorem c_many_of (T : Txt K mg aO aS B bI) (n : Nat) : Cal P w K mg base 1 "many_of" (spR K (RMany n)) := by
  have sc : FnScope ["ladder", "many", "exponent", "here"] ["ladder", "many"] (defScope (top 37)) := ⟨rfl, rfl, rfl, by decide +kernel, rfl, by decide +kernel, by decide +kernel⟩
  refine calD T.a_many_of sc (spR_len fun ds d ⟨_, _, _, _, e, _⟩ => by rw [e]; rfl) (fun _ _ _ _ _ _ us hl => match us, hl with | [_, _], _ => rfl) fun f cdv A outer s H vs Q E hr h => ?_
  refine ⟨_, (pss_cons (ps_if (pt_cmpR op_eq (pv 1) pe_int (nomark _)) (pss_one (ps_ret (pe_tup pa_nil))) pss_nil)
    (pss_one (ps_ret (pe_callTy call_tuple_of rfl T.n_tuple b_tuple (pa_cons (pe_lc rfl sc.nd (show PI _ _ _ (iTup K _) from (pi_tup (pv 0))) (blkOk_by (N := ["ladder", "many", "exponent", "here"]) (sc := (defScope (top 37))) (own := [("exponent", 2), ("here", 3)]) (by decide +kernel)) (fun _ _ _ _ _ => (show PG _ _ (gTup K 2 _) from (pg_tup rfl (pgs_cons (pg_name (i := 2) sc.nd rfl (Or.inl rfl)) (pgs_cons (pg_name (i := 3) sc.nd rfl (Or.inl rfl)) pgs_nil))))) (fun _ _ _ _ _ => pts_nil) (fun _ _ _ _ _ => (pe_tup (pa_cons (pv 2) (pa_cons (pe_op op_mul (pv 3) (pv 1)) pa_nil))))) pa_nil))))), ?_⟩
  obtain ⟨ds, d, ⟨a, k, ha, hk, rfl, rfl⟩, hv, q⟩ := h
  obtain ⟨va, vb, rfl, h1, h2⟩ := dpa_two hv
  have h2 := dp_int h2
  subst h2
  show (_ : TS) _ [some va, some (.int k), none, none] H
  refine q_when (b := decide (k = 0)) (et_is (et_test (ev_op (ev_var rfl) ev_c (rv_eq rfl))) (by simp)) (fun hk0 H1 e1 => ?_) fun hk0 H1 e1 => ?_
  · have e : k = 0 := of_decide_eq_true hk0
    subst e
    exact s_retD ed_nilT fun v H2 e2 hd => q v H2 (e1.trans e2) hd
  · have e : ¬ k = 0 := of_decide_eq_false hk0
    refine s_retD (d := .tuple (a.toL.map fun p => Lad.prD (p.1, p.2 * k))) (ed_cb (ds := [.list (a.toL.map fun p => Lad.prD (p.1, p.2 * k))]) (eda_1 ?_) rc_tupL) fun v H2 e2 hd => ?_
    · have := ed_lcT (K := K) (σ := [some va, some (.int k), none, none]) (H := H1) (enc := Lad.prD) (out := fun p => Lad.prD (p.1, p.2 * k)) (ls := a.toL) (f := fun _ => true) (t := tYes) (g := gTup K 2 (gCons (gName 2) (gCons (gName 3) gNil))) (te := tTup (tCons (tVar 2) (tCons (tOp (rI CMul fun i j => .int (i * j)) (tVar 3) (tVar 1)) tNil))) (tl := tVar 0) (vs := [2, 3]) (by rw [← Lad.ds_toL]; exact ed_var rfl (dp_ex e1 h1)) (by rw [Lad.toL_length]; have := ha.len; omega) (fun _ _ _ => nol_lpr _)
        fun p hp v H3 e3 hd R kk => g_two hd fun w1 w2 g1 g2 => kk [some va, some (.int k), some w1, some w2] H3 (Ex.refl _) rfl et_yes fun _ => ed_tup (eda_2 (d := p.1.d) (d' := .int (p.2 * k)) (ed_var rfl g1) (ed_int (ev_op (ev_int (ed_var rfl g2)) (ev_var rfl) (rv_I (Or.inr ⟨by omega, by omega⟩))))) sz2
      rw [filter_all] at this
      exact this
    · refine q v H2 (e1.trans e2) ?_
      have ed : (Lad.manyOf a k).d = .tuple (a.toL.map fun p => Lad.prD (p.1, p.2 * k)) := by
        rw [Lad.manyOf, if_neg e]
        show PyData.tuple (Lad.ofL _).ds = _
        rw [Lad.ofL_ds, List.map_map]
        rfl
      rw [ed]
      exact hd
def RPower (ds : List PyData) (d : PyData) : Prop := ∃ a : Lad, ds = [a.d] ∧ d = (Lad.power a).d
theorem c_power (T : Txt K mg aO aS B bI) : Cal P w K mg base 1 "power" (spR K RPower) := by
  have sc : FnScope ["ladder"] ["ladder"] (defScope (top 39)) := ⟨rfl, rfl, rfl, by decide +kernel, rfl, by decide +kernel, by decide +kernel⟩
  refine calD T.a_power sc (spR_len fun ds d ⟨_, e, _⟩ => by rw [e]; rfl) (fun _ _ _ _ _ _ us hl => match us, hl with | [_], _ => rfl) fun f cdv A outer s H vs Q E hr h => ?_
  refine ⟨_, (pss_one (ps_ret (pe_tup (pa_cons (pe_tup (pa_cons (pv 0) (pa_cons pe_int pa_nil))) pa_nil)))), ?_⟩
  obtain ⟨ds, d, ⟨a, rfl, rfl⟩, hv, q⟩ := h
  obtain ⟨va, rfl, h1⟩ := dpa_one hv
  show (_ : TS) _ [some va] H
  exact s_retD (ed_tup (eda_1 (ed_tup (eda_2 (d := a.d) (d' := .int 1) (ed_var rfl h1) (ed_int ev_c)) sz2)) sz1) fun v H2 e2 hd => q v H2 e2 hd
/-- less long, of at least three levels -/
structure Sn (n : Nat) (a : Lad) : Prop where
  dep : a.dep < n
  parts : a.parts ≤ 4000
theorem Sn.sm {n : Nat} {a : Lad} (h : Sn n a) : Sm n a := ⟨h.dep, by have := h.parts; omega⟩
def R2N (n : Nat) (C : Lad → Lad → Prop) (f : Lad → Lad → Lad) (ds : List PyData) (d : PyData) : Prop := ∃ a b : Lad, Sn n a ∧ Sn n b ∧ (3 ≤ n ∧ n ≤ 30) ∧ C a b ∧ ds = [a.d, b.d] ∧ d = (f a b).d
theorem R2N.len {n : Nat} {C : Lad → Lad → Prop} {f : Lad → Lad → Lad} : ∀ ds d, R2N n C f ds d → ds.length = 2 := fun ds d ⟨_, _, _, _, _, _, e, _⟩ => by rw [e]; rfl
theorem c_above (T : Txt K mg aO aS B bI) (n : Nat) : Cal P w K mg base (n + 2) "above" (spR K (R2N n (fun _ _ => True) Lad.above)) := by
  have c_is_less := c_is_less (P := P) (w := w) (base := base) T n
  have c_both := c_both (P := P) (w := w) (base := base) T n
  have c_behind := c_behind (P := P) (w := w) (base := base) T n
  have c_power := c_power (P := P) (w := w) (base := base) T
  have sc : FnScope ["one", "other", "exponent", "greater", "pair"] ["one", "other"] (defScope (top 40)) := ⟨rfl, rfl, rfl, by decide +kernel, rfl, by decide +kernel, by decide +kernel⟩
  refine calD T.a_above sc (spR_len R2N.len) (fun _ _ _ _ _ _ us hl => match us, hl with | [_, _], _ => rfl) fun f cdv A outer s H vs Q E hr h => ?_
  refine ⟨_, (pss_cons (ps_if (pt_cmpR (show OpR _ _ (rEqD K) from (op_eqD hr.units)) (pv 1) (pe_tup pa_nil) (nomark _)) (pss_one (ps_ret (pe_c c_both hr (by omega) rfl (pa_cons (pv 0) (pa_cons (pe_gc rfl T.g_ONE) pa_nil))))) pss_nil)
    (pss_cons (ps_set (i := 2) sc.nd rfl (Or.inr rfl) (pe_ix (show IxR _ (rIxT K) from ix_tup) (pe_ix (show IxR _ (rIxT K) from ix_tup) (pv 1) pe_int (fun _ _ => rfl)) pe_int (fun _ _ => rfl)))
    (pss_cons (ps_setLc (i := 3) rfl sc.nd rfl rfl (sw_true rfl rfl rfl rfl) (show PI _ _ _ (iTup K _) from (pi_tup (pv 0))) (blkOk_by (N := ["one", "other", "exponent", "greater", "pair"]) (sc := (defScope (top 40))) (own := [("pair", 4)]) (by decide +kernel)) (fun _ _ _ _ _ => (pg_name (i := 4) sc.nd rfl (Or.inl rfl))) (fun _ _ _ _ _ => pts_one (pt_val (pe_c c_is_less hr (by omega) rfl (pa_cons (pv 2) (pa_cons (pe_ix (show IxR _ (rIxT K) from ix_tup) (pv 4) pe_int (fun _ _ => rfl)) pa_nil))))) (fun _ _ _ _ _ => (pv 4)))
    (pss_one (ps_ret (pe_c c_both hr (by omega) rfl (pa_cons (pe_callTy call_tuple_of rfl T.n_tuple b_tuple (pa_cons (pv 3) pa_nil)) (pa_cons (pe_c c_power hr (by omega) rfl (pa_cons (pe_c c_behind hr (by omega) rfl (pa_cons (pv 2) (pa_cons (pe_gc rfl T.g_ONE) pa_nil))) pa_nil)) pa_nil)))))))), ?_⟩
  obtain ⟨ds, d, ⟨a, b, ha, hb, hn, _, rfl, rfl⟩, hv, q⟩ := h
  obtain ⟨va, vb, rfl, h1, h2⟩ := dpa_two hv
  show (_ : TS) _ [some va, some vb, none, none, none] H
  have had := ha.dep
  have hbd := hb.dep
  have hap := ha.parts
  have hbp := hb.parts
  have o1 : Lad.one.parts = 1 := rfl
  have o2 : Lad.one.dep = 1 := rfl
  refine q_when (et_test (ev_eqD (d := b.d) (d' := .tuple []) (ed_var rfl h2) ed_nilT (shaped_lad (by omega)) shaped_nil)) (fun hne H1 e1 => ?_) fun heq H1 e1 => ?_
  · rw [eqv_lad_nil] at hne
    have e : b = .nil := by simpa using hne
    subst e
    exact s_retD (d := (Lad.both a .one).d) (ed_call (eda_2 (d := a.d) (d' := Lad.one.d) (ed_var rfl (dp_ex e1 h1)) (ed_ev ev_c T.d_ONE)) (spd_of ⟨a, .one, ha.sm, ⟨by omega, by omega⟩, hn.2, rfl, rfl⟩)) fun v H2 e2 hd => q v H2 (e1.trans e2) hd
  · rw [eqv_lad_nil] at heq
    cases b with
    | nil => simp at heq
    | cons e m r =>
      have hde : 1 + e.dep ≤ (Lad.cons e m r).dep := by simp only [Lad.dep]; omega
      have hpe : e.parts + 1 ≤ (Lad.cons e m r).parts := by simp only [Lad.parts]; omega
      refine q_asgD (d := e.d) (ed_at (i := 0) (ed_at (i := 0) (ds := (Lad.cons e m r).ds) (ed_var rfl (dp_ex e1 h2)) rfl) rfl) fun w1 H2 e2 g1 => ?_
      show (_ : TS) _ [some va, some vb, some w1, none, none] H2
      refine q_asgD (d := .list ((a.toL.filter fun p => Lad.less e p.1).map Lad.prD)) (ed_lcT (enc := Lad.prD) (out := Lad.prD) (ls := a.toL) (f := fun p => Lad.less e p.1) (by rw [← Lad.ds_toL]; exact ed_var rfl (dp_ex (e1.trans e2) h1)) (by rw [Lad.toL_length]; have := ha.sm.len; omega) (fun _ _ _ => nol_lpr _)
        fun p hp v H3 e3 hd R k => k [some va, some vb, some w1, none, some v] H3 (Ex.refl _) rfl (et_B (ev_bl (ed_call (eda_2 (d := e.d) (d' := p.1.d) (ed_var rfl (dp_ex e3 g1)) (ed_at (i := 0) (ed_var rfl hd) rfl)) (less_call (k := n) (by omega) (by have := dep_mem hp; omega) hn.2)))) fun _ => ed_var rfl hd) fun vh H3 e3 hh => ?_
      show (_ : TS) _ [some va, some vb, some w1, some vh, none] H3
      have p1 := Lad.parts_filter (fun p => Lad.less e p.1) a
      have p2 := Lad.dep_filter (fun p => Lad.less e p.1) a
      have p3 := Lad.parts_behind e .one
      have p4 := Lad.dep_behind e .one
      have eg : (Lad.gt e a).d = .tuple ((a.toL.filter fun p => Lad.less e p.1).map Lad.prD) := by
        show PyData.tuple (Lad.ofL _).ds = _
        rw [Lad.ofL_ds]
      refine s_retD (d := (Lad.both (Lad.gt e a) (Lad.power (Lad.behind e .one))).d) (ed_call (eda_2 (d := (Lad.gt e a).d) (d' := (Lad.power (Lad.behind e .one)).d) (by rw [eg]; exact ed_cb (eda_1 (ed_var rfl hh)) rc_tupL)
        (ed_call (eda_1 (d := (Lad.behind e .one).d) (ed_call (eda_2 (d := e.d) (d' := Lad.one.d) (ed_var rfl (dp_ex e3 g1)) (ed_ev ev_c T.d_ONE)) (spd_of ⟨e, .one, ⟨by omega, by omega⟩, ⟨by omega, by omega⟩, hn.2, rfl, rfl⟩))) (spd_of ⟨_, rfl, rfl⟩)))
        (spd_of ⟨Lad.gt e a, Lad.power (Lad.behind e .one), ⟨by show (Lad.ofL _).dep < n; omega, by show (Lad.ofL _).parts ≤ _; omega⟩, ⟨by simp only [Lad.power, Lad.dep]; omega, by simp only [Lad.power, Lad.parts]; omega⟩, hn.2, rfl, rfl⟩)) fun v H4 e4 hd => q v H4 (((e1.trans e2).trans e3).trans e4) hd
theorem c_spread (T : Txt K mg aO aS B bI) (n : Nat) : Cal P w K mg base (n + 2) "spread" (spR K (R2N n (fun a _ => a ≠ .nil) Lad.spread)) := by
  have c_behind := c_behind (P := P) (w := w) (base := base) T n
  have c_power := c_power (P := P) (w := w) (base := base) T
  have sc : FnScope ["one", "other"] ["one", "other"] (defScope (top 41)) := ⟨rfl, rfl, rfl, by decide +kernel, rfl, by decide +kernel, by decide +kernel⟩
  refine calD T.a_spread sc (spR_len R2N.len) (fun _ _ _ _ _ _ us hl => match us, hl with | [_, _], _ => rfl) fun f cdv A outer s H vs Q E hr h => ?_
  refine ⟨_, (pss_cons (ps_if (pt_cmpR (show OpR _ _ (rEqD K) from (op_eqD hr.units)) (pv 1) (pe_tup pa_nil) (nomark _)) (pss_one (ps_ret (pv 0))) pss_nil)
    (pss_one (ps_ret (pe_c c_power hr (by omega) rfl (pa_cons (pe_c c_behind hr (by omega) rfl (pa_cons (pe_ix (show IxR _ (rIxT K) from ix_tup) (pe_ix (show IxR _ (rIxT K) from ix_tup) (pv 0) pe_int (fun _ _ => rfl)) pe_int (fun _ _ => rfl)) (pa_cons (pv 1) pa_nil))) pa_nil))))), ?_⟩
  obtain ⟨ds, d, ⟨a, b, ha, hb, hn, hc, rfl, rfl⟩, hv, q⟩ := h
  obtain ⟨va, vb, rfl, h1, h2⟩ := dpa_two hv
  show (_ : TS) _ [some va, some vb] H
  have had := ha.dep
  have hbd := hb.dep
  have hap := ha.parts
  have hbp := hb.parts
  refine q_when (et_test (ev_eqD (d := b.d) (d' := .tuple []) (ed_var rfl h2) ed_nilT (shaped_lad (by omega)) shaped_nil)) (fun hne H1 e1 => ?_) fun heq H1 e1 => ?_
  · rw [eqv_lad_nil] at hne
    have e : b = .nil := by simpa using hne
    subst e
    exact s_retD (ed_var rfl (dp_ex e1 h1)) fun v H2 e2 hd => q v H2 (e1.trans e2) hd
  · rw [eqv_lad_nil] at heq
    cases b with
    | nil => simp at heq
    | cons e m r =>
      cases a with
      | nil => exact absurd rfl hc
      | cons x k t =>
        have hdx : 1 + x.dep ≤ (Lad.cons x k t).dep := by simp only [Lad.dep]; omega
        have hpx : x.parts + 1 ≤ (Lad.cons x k t).parts := by simp only [Lad.parts]; omega
        exact s_retD (d := (Lad.power (Lad.behind x (.cons e m r))).d) (ed_call (eda_1 (d := (Lad.behind x (.cons e m r)).d) (ed_call (eda_2 (d := x.d) (d' := (Lad.cons e m r).d) (ed_at (i := 0) (ed_at (i := 0) (ds := (Lad.cons x k t).ds) (ed_var rfl (dp_ex e1 h1)) rfl) rfl) (ed_var rfl (dp_ex e1 h2)))
          (spd_of ⟨x, .cons e m r, ⟨by omega, by omega⟩, hb.sm, hn.2, rfl, rfl⟩))) (spd_of ⟨_, rfl, rfl⟩)) fun v H2 e2 hd => q v H2 (e1.trans e2) hd
theorem ev_eqNil {σ : L2.St} {H : Hp} {ta : TE} {e : Lad} (h : EvD K ta σ H e.d) (hd : e.dep ≤ 30) : Ev (tOp (rEqD K) ta (tTup tNil)) σ H (.bl (decide (e = .nil))) := ev_is (ev_eqD h ed_nilT (shaped_lad hd) shaped_nil) (by rw [eqv_lad_nil])
theorem ev_neNil {σ : L2.St} {H : Hp} {ta : TE} {e : Lad} (h : EvD K ta σ H e.d) (hd : e.dep ≤ 30) : Ev (tOp (rNeD K) ta (tTup tNil)) σ H (.bl (!decide (e = .nil))) := ev_is (ev_neD h ed_nilT (shaped_lad hd) shaped_nil) (by rw [eqv_lad_nil])
theorem ev_lenLad {σ : L2.St} {H : Hp} {ta : TE} {e : Lad} (h : EvD K ta σ H e.d) : Ev (tCB (rLenS K) (tCons ta tNil)) σ H (.int (e.len : Int)) := ev_is (ev_int (ed_cb (eda_1 h) rc_lenT)) (by rw [Lad.ds_length])
theorem ed_headE {σ : L2.St} {H : Hp} {ta : TE} {e : Lad} (h : EvD K ta σ H e.d) (hn : e ≠ .nil) : EvD K (tOp (rIxT K) (tOp (rIxT K) ta (tC (.int (0 : Nat)))) (tC (.int (0 : Nat)))) σ H e.headE.d := by
  cases e with
  | nil => exact absurd rfl hn
  | cons x m r => exact ed_at (i := 0) (ed_at (i := 0) (ds := (Lad.cons x m r).ds) h rfl) rfl
theorem ed_headM {σ : L2.St} {H : Hp} {ta : TE} {e : Lad} (h : EvD K ta σ H e.d) (hn : e ≠ .nil) : EvD K (tOp (rIxT K) (tOp (rIxT K) ta (tC (.int (0 : Nat)))) (tC (.int (1 : Nat)))) σ H (.int e.headM) := by
  cases e with
  | nil => exact absurd rfl hn
  | cons x m r => exact ed_at (i := 1) (ed_at (i := 0) (ds := (Lad.cons x m r).ds) h rfl) rfl
theorem headE_dep (e : Lad) : e.headE.dep ≤ e.dep := by
  cases e with
  | nil => exact Nat.le_refl _
  | cons x m r => simp only [Lad.headE, Lad.dep]; omega
def RCount (ds : List PyData) (d : PyData) : Prop := ∃ a : Lad, a.dep ≤ 30 ∧ ds = [a.d] ∧ d = .bool a.counted
theorem c_is_counted (T : Txt K mg aO aS B bI) : Cal P w K mg base 1 "is_counted" (spR K RCount) := by
  have sc : FnScope ["exponent"] ["exponent"] (defScope (top 56)) := ⟨rfl, rfl, rfl, by decide +kernel, rfl, by decide +kernel, by decide +kernel⟩
  refine calD T.a_is_counted sc (spR_len fun ds d ⟨_, _, e, _⟩ => by rw [e]; rfl) (fun _ _ _ _ _ _ us hl => match us, hl with | [_], _ => rfl) fun f cdv A outer s H vs Q E hr h => ?_
  refine ⟨_, (pss_one (ps_ret (pe_or (pe_cmpR (show OpR _ _ (rEqD K) from (op_eqD hr.units)) (pv 0) (pe_tup pa_nil) (nomark _)) (pe_one (pe_and (pe_cmpR op_eq (pe_callB (show CallR _ _ (rLenS K) from call_len_seq) rfl T.n_len b_len (pa_cons (pv 0) pa_nil)) pe_int (nomark _)) (pe_one (pe_cmpR (show OpR _ _ (rEqD K) from (op_eqD hr.units)) (pe_ix (show IxR _ (rIxT K) from ix_tup) (pe_ix (show IxR _ (rIxT K) from ix_tup) (pv 0) pe_int (fun _ _ => rfl)) pe_int (fun _ _ => rfl)) (pe_tup pa_nil) (nomark _)))))))), ?_⟩
  obtain ⟨ds, d, ⟨a, ha, rfl, rfl⟩, hv, q⟩ := h
  obtain ⟨va, rfl, h1⟩ := dpa_one hv
  show (_ : TS) _ [some va] H
  refine s_ret (v := .bl a.counted) (ev_orV (ev_eqNil (ed_var rfl h1) ha) fun hn => ev_andV (a := decide (a.len = 1)) (ev_is (ev_op (ev_lenLad (ed_var rfl h1)) ev_c (rv_eq rfl)) ?_) fun _ => ev_eqNil (ed_headE (ed_var rfl h1) (of_decide_eq_false hn)) (by have := headE_dep a; omega)) fun H1 e1 => q _ H1 e1 (.bl _)
  have e : (V.int (a.len : Int) = V.int 1) ↔ a.len = 1 := ⟨fun h => by injection h; omega, fun h => by rw [h]; rfl⟩
  rw [decide_eq_decide.mpr e]
def RSort (n : Nat) (ds : List PyData) (d : PyData) : Prop := ∃ a : Lad, Sm n a ∧ (3 ≤ n ∧ n ≤ 30) ∧ ds = [a.d] ∧ d = .str a.sortOf
theorem c_sort_of (T : Txt K mg aO aS B bI) (n : Nat) : Cal P w K mg base (n + 2) "sort_of" (spR K (RSort n)) := by
  have c_is_less := c_is_less (P := P) (w := w) (base := base) T n
  have c_is_counted := c_is_counted (P := P) (w := w) (base := base) T
  have sc : FnScope ["ladder", "exponents", "pair", "exponent"] ["ladder"] (defScope (top 57)) := ⟨rfl, rfl, rfl, by decide +kernel, rfl, by decide +kernel, by decide +kernel⟩
  refine calD T.a_sort_of sc (spR_len fun ds d ⟨_, _, _, e, _⟩ => by rw [e]; rfl) (fun _ _ _ _ _ _ us hl => match us, hl with | [_], _ => rfl) fun f cdv A outer s H vs Q E hr h => ?_
  refine ⟨_, (pss_cons (ps_setLc (i := 1) rfl sc.nd rfl rfl (sw_true rfl rfl rfl rfl) (show PI _ _ _ (iTup K _) from (pi_tup (pv 0))) (blkOk_by (N := ["ladder", "exponents", "pair", "exponent"]) (sc := (defScope (top 57))) (own := [("pair", 2)]) (by decide +kernel)) (fun _ _ _ _ _ => (pg_name (i := 2) sc.nd rfl (Or.inl rfl))) (fun _ _ _ _ _ => pts_nil) (fun _ _ _ _ _ => (pe_ix (show IxR _ (rIxT K) from ix_tup) (pv 2) pe_int (fun _ _ => rfl))))
    (pss_cons (ps_if (pt_val (pe_callB (show CallR _ _ (rAll K) from (cr_all rfl)) rfl T.n_all b_all (pa_cons (pe_lc rfl sc.nd (show PI _ _ _ (iList K _) from (pi_list (pv 1))) (blkOk_by (N := ["ladder", "exponents", "pair", "exponent"]) (sc := (defScope (top 57))) (own := [("exponent", 3)]) (by decide +kernel)) (fun _ _ _ _ _ => (pg_name (i := 3) sc.nd rfl (Or.inl rfl))) (fun _ _ _ _ _ => pts_nil) (fun _ _ _ _ _ => (pe_cmpR (show OpR _ _ (rEqD K) from (op_eqD hr.units)) (pv 3) (pe_tup pa_nil) (nomark _)))) pa_nil))) (pss_one (ps_ret pe_str)) pss_nil)
    (pss_cons (ps_if (pt_val (pe_callB (show CallR _ _ (rAll K) from (cr_all rfl)) rfl T.n_all b_all (pa_cons (pe_lc rfl sc.nd (show PI _ _ _ (iList K _) from (pi_list (pv 1))) (blkOk_by (N := ["ladder", "exponents", "pair", "exponent"]) (sc := (defScope (top 57))) (own := [("exponent", 3)]) (by decide +kernel)) (fun _ _ _ _ _ => (pg_name (i := 3) sc.nd rfl (Or.inl rfl))) (fun _ _ _ _ _ => pts_nil) (fun _ _ _ _ _ => (pe_not (pe_c c_is_less hr (by omega) rfl (pa_cons (pe_gc rfl T.g_ONE) (pa_cons (pv 3) pa_nil)))))) pa_nil))) (pss_one (ps_ret pe_str)) pss_nil)
    (pss_cons (ps_if (pt_val (pe_callB (show CallR _ _ (rAll K) from (cr_all rfl)) rfl T.n_all b_all (pa_cons (pe_lc rfl sc.nd (show PI _ _ _ (iList K _) from (pi_list (pv 1))) (blkOk_by (N := ["ladder", "exponents", "pair", "exponent"]) (sc := (defScope (top 57))) (own := [("exponent", 3)]) (by decide +kernel)) (fun _ _ _ _ _ => (pg_name (i := 3) sc.nd rfl (Or.inl rfl))) (fun _ _ _ _ _ => pts_nil) (fun _ _ _ _ _ => (pe_c c_is_counted hr (by omega) rfl (pa_cons (pv 3) pa_nil)))) pa_nil))) (pss_one (ps_ret pe_str)) pss_nil)
    (pss_one (ps_ret pe_str)))))), ?_⟩
  obtain ⟨ds, d, ⟨a, ha, hn, rfl, rfl⟩, hv, q⟩ := h
  obtain ⟨va, rfl, h1⟩ := dpa_one hv
  show (_ : TS) _ [some va, none, none, none] H
  have hal := ha.len
  have had := ha.dep
  have hel : a.exps.length ≤ 10000 := by rw [Lad.exps, List.length_map, Lad.toL_length]; exact hal
  have hed : ∀ e ∈ a.exps, 1 + e.dep ≤ a.dep := fun e he => by
    obtain ⟨p, hp, rfl⟩ := List.mem_map.mp he
    exact dep_mem hp
  refine q_asgD (K := K) (d := .list (a.exps.map Lad.d)) ?_ fun vx H1 e1 hx => ?_
  · have := ed_lcT (K := K) (σ := [some va, none, none, none]) (H := H) (enc := Lad.prD) (out := fun p => p.1.d) (ls := a.toL) (f := fun _ => true) (t := tYes) (g := gName 2) (te := tOp (rIxT K) (tVar 2) (tC (.int (0 : Nat)))) (tl := tVar 0) (vs := [2]) (by rw [← Lad.ds_toL]; exact ed_var rfl h1) (by rw [Lad.toL_length]; omega) (fun _ _ _ => nol_lad _)
      fun p hp v H3 e3 hd R kk => kk [some va, none, some v, none] H3 (Ex.refl _) rfl et_yes fun _ => ed_at (i := 0) (ed_var rfl hd) rfl
    rw [filter_all] at this
    have ee : (a.toL.map fun p => p.1.d) = a.exps.map Lad.d := by rw [Lad.exps, List.map_map]; rfl
    rw [ee] at this
    exact this
  show (_ : TS) _ [some va, some vx, none, none] H1
  have allE : ∀ (g : Lad → Bool) (te : TE) (H2 : Hp), Ex H1 H2 → (∀ e ∈ a.exps, ∀ v H3, Ex H2 H3 → Dp K H3 v e.d → EvD K te [some va, some vx, none, some v] H3 (.bool (g e))) →
      EvT (tB (tCB (rAll K) (tCons (tLc (iList K (tVar 1)) (gName 3) tYes te [3]) tNil))) [some va, some vx, none, none] H2 (a.exps.all g) := fun g te H2 e2 hg => by
    refine et_B (ev_bl (K := K) ?_)
    have := ed_lcL (K := K) (σ := [some va, some vx, none, none]) (H := H2) (enc := Lad.d) (out := fun e => .bool (g e)) (ls := a.exps) (f := fun _ => true) (t := tYes) (g := gName 3) (te := te) (tl := tVar 1) (vs := [3]) (ed_var rfl (dp_ex e2 hx)) (by omega) (fun _ _ _ => rfl)
      fun e he v H3 e3 hd R kk => kk [some va, some vx, none, some v] H3 (Ex.refl _) rfl et_yes fun _ => hg e he v H3 e3 hd
    rw [filter_all, all_bools] at this
    have h3 := ed_cb (eda_1 this) rc_all
    rw [all_id] at h3
    exact h3
  refine q_when (b := a.exps.all fun e => decide (e = .nil)) (allE _ _ H1 (Ex.refl _) fun e he v H3 e3 hd => ed_bl (ev_eqNil (ed_var rfl hd) (by have := hed e he; omega))) (fun hb H2 e2 => ?_) fun hb H2 e2 => ?_
  · refine s_ret ev_c fun H3 e3 => q _ H3 ((e1.trans e2).trans e3) ?_
    rw [Lad.sortOf, if_pos hb]
    exact .str _
  refine q_when (b := a.exps.all fun e => !Lad.less .one e) (allE _ _ H2 e2 fun e he v H3 e3 hd => ed_bl (ev_notV (ev_bl (ed_call (eda_2 (d := Lad.one.d) (d' := e.d) (ed_ev ev_c T.d_ONE) (ed_var rfl hd)) (less_call (k := n) (by show 1 < n; omega) (by have := hed e he; omega) hn.2))))) (fun hb2 H3 e3 => ?_) fun hb2 H3 e3 => ?_
  · refine s_ret ev_c fun H4 e4 => q _ H4 (((e1.trans e2).trans e3).trans e4) ?_
    rw [Lad.sortOf, if_neg (by rw [hb]; decide), if_pos hb2]
    exact .str _
  refine q_when (b := a.exps.all Lad.counted) (allE _ _ H3 (e2.trans e3) fun e he v H4 e4 hd => ed_call (eda_1 (d := e.d) (ed_var rfl hd)) (spd_of ⟨e, by have := hed e he; omega, rfl, rfl⟩)) (fun hb3 H4 e4 => ?_) fun hb3 H4 e4 => ?_
  · refine s_ret ev_c fun H5 e5 => q _ H5 ((((e1.trans e2).trans e3).trans e4).trans e5) ?_
    rw [Lad.sortOf, if_neg (by rw [hb]; decide), if_neg (by rw [hb2]; decide), if_pos hb3]
    exact .str _
  · refine s_ret ev_c fun H5 e5 => q _ H5 ((((e1.trans e2).trans e3).trans e4).trans e5) ?_
    rw [Lad.sortOf, if_neg (by rw [hb]; decide), if_neg (by rw [hb2]; decide), if_neg (by rw [hb3]; decide)]
    exact .str _
def RWord (n : Nat) (ds : List PyData) (d : PyData) : Prop := ∃ a : Lad, Sm n a ∧ n ≤ 30 ∧ ds = [a.d] ∧ d = .str (Lad.word "number" a)
theorem c__law_word (T : Txt K mg aO aS B bI) (n : Nat) : Cal P w K mg base 1 "_law_word" (spR K (RWord n)) := by
  have sc : FnScope ["_law_ladder", "_law_found", "_law_exponent", "_law_many"] ["_law_ladder"] (defScope (top 86)) := ⟨rfl, rfl, rfl, by decide +kernel, rfl, by decide +kernel, by decide +kernel⟩
  refine calD T.a__law_word sc (spR_len fun ds d ⟨_, _, _, e, _⟩ => by rw [e]; rfl) (fun _ _ _ _ _ _ us hl => match us, hl with | [_], _ => rfl) fun f cdv A outer s H vs Q E hr h => ?_
  refine ⟨_, (pss_cons (ps_set (i := 1) sc.nd rfl (Or.inl rfl) pe_str)
    (pss_cons (ps_for PassesOwn.never rfl (show PI _ _ _ (iTup K _) from (pi_tup (pv 0))) (show PG _ _ (gTup K 2 _) from (pg_tup rfl (pgs_cons (pg_name (i := 2) sc.nd rfl (Or.inl rfl)) (pgs_cons (pg_name (i := 3) sc.nd rfl (Or.inl rfl)) pgs_nil))))
      (pss_cons (ps_if (pt_bool (pw_and (pt_cmpR (show OpR _ _ (rNeD K) from (op_neD hr.units)) (pv 2) (pe_tup pa_nil) (nomark _)) (pw_and1 (pt_bool (pw_or (pt_cmpR op_gt (pe_callB (show CallR _ _ (rLenS K) from call_len_seq) rfl T.n_len b_len (pa_cons (pv 2) pa_nil)) pe_int (nomark _)) (pw_or1 (pt_cmpR (show OpR _ _ (rNeD K) from (op_neD hr.units)) (pe_ix (show IxR _ (rIxT K) from ix_tup) (pe_ix (show IxR _ (rIxT K) from ix_tup) (pv 2) pe_int (fun _ _ => rfl)) pe_int (fun _ _ => rfl)) (pe_tup pa_nil) (nomark _)))))))) (pss_one (ps_ret pe_str)) pss_nil)
      (pss_cons (ps_if (pt_bool (pw_and (pt_cmpR (show OpR _ _ (rNeD K) from (op_neD hr.units)) (pv 2) (pe_tup pa_nil) (nomark _)) (pw_and1 (pt_cmpR op_gt (pe_ix (show IxR _ (rIxT K) from ix_tup) (pe_ix (show IxR _ (rIxT K) from ix_tup) (pv 2) pe_int (fun _ _ => rfl)) pe_int (fun _ _ => rfl)) pe_int (nomark _))))) (pss_one (ps_set (i := 1) sc.nd rfl (Or.inl rfl) pe_str)) pss_nil)
      (pss_one (ps_if (pt_bool (pw_and (pt_cmpR (show OpR _ _ (rNeD K) from (op_neD hr.units)) (pv 2) (pe_tup pa_nil) (nomark _)) (pw_and1 (pt_cmpR op_eq (pv 1) pe_str (nomark _))))) (pss_one (ps_set (i := 1) sc.nd rfl (Or.inl rfl) pe_str)) pss_nil)))))
    (pss_one (ps_ret (pv 1))))), ?_⟩
  obtain ⟨ds, d, ⟨a, ha, hn, rfl, rfl⟩, hv, q⟩ := h
  obtain ⟨va, rfl, h1⟩ := dpa_one hv
  show (_ : TS) _ [some va, none, none, none] H
  have had := ha.dep
  refine q_asg ev_c fun H1 e1 => ?_
  show (_ : TS) _ [some va, some (.str "number"), none, none] H1
  refine s_forTD (D := { nx := _, rt := _, bk := _, ct := _ }) (ds := a.ds) (ed_var rfl (dp_ex e1 h1)) (nol_lads a) (fun H2 i σ' H' => Ex H2 H' ∧ ∃ f x y, σ' = [some va, some (.str f), x, y] ∧ Lad.word "number" a = Lad.word f (a.drop i))
    (fun H2 e2 => ⟨Ex.refl _, "number", none, none, rfl, by cases a <;> rfl⟩) (fun H2 i σ' H' p => tx_ex p.1) ?_ ?_
  · rintro H2 e2 i d x σ' H' hd hx ⟨e3, f, x0, y0, rfl, hw⟩
    obtain ⟨⟨e, m⟩, hp, rfl⟩ := ds_get hd
    have hde : 1 + e.dep ≤ a.dep := dep_get hp
    have hdh := headE_dep e
    rw [Lad.drop_get hp] at hw
    refine g_two hx fun w1 w2 g1 g2 => ?_
    show (_ : TS) _ [some va, some (.str f), some w1, some w2] H'
    have E1 := (e1.trans e2).trans e3
    have neE : ∀ {f : Str} {H3 : Hp}, Ex H' H3 → EvT (tTest (tOp (rNeD K) (tVar 2) (tTup tNil))) [some va, some (.str f), some w1, some w2] H3 (!decide (e = .nil)) := fun e3 => et_test (ev_neNil (ed_var rfl (dp_ex e3 g1)) (by omega))
    refine q_when (b := Lad.big e) (et_and (neE (Ex.refl _)) fun hne => et_or (a := decide (1 < e.len)) (et_is (et_test (ev_op (ev_lenLad (e := e) (ed_var rfl g1)) ev_c rv_I0)) (decide_eq_decide.mpr (by omega))) fun _ => et_test (ev_neNil (ed_headE (ed_var rfl g1) (by simpa using hne)) (by omega))) (fun hb H3 e4 => ?_) fun hb H3 e4 => ?_
    · refine s_ret ev_c fun H4 e5 => q _ H4 ((E1.trans e4).trans e5) ?_
      rw [hw, Lad.word, if_pos hb]
      exact .str _
    · refine q_ifAsg (b := Lad.c2 e) (v := .str (Lad.step1 f e)) (et_and (neE e4) fun hne => et_is (et_test (ev_op (ev_int (ed_headM (ed_var rfl (dp_ex e4 g1)) (by simpa using hne))) ev_c rv_I0)) (by simp)) (fun hc => ev_is ev_c (by rw [Lad.step1, if_pos hc])) (fun hc => by rw [Lad.step1, if_neg (by rw [hc]; decide)]; rfl) fun H4 e5 => ?_
      show (_ : TS) _ [some va, some (.str (Lad.step1 f e)), some w1, some w2] H4
      refine s_ifAsg (b := Lad.c3 (Lad.step1 f e) e) (v := .str (Lad.step2 (Lad.step1 f e) e)) (et_and (neE (e4.trans e5)) fun hne => et_is (et_test (ev_op (ev_var rfl) ev_c (rv_eq rfl))) (by simp)) (fun hc => ev_is ev_c (by rw [Lad.step2, if_pos hc])) (fun hc => by rw [Lad.step2, if_neg (by rw [hc]; decide)]; rfl) fun H5 e6 => ?_
      refine ⟨((e3.trans e4).trans e5).trans e6, _, some w1, some w2, rfl, ?_⟩
      rw [hw, Lad.word, if_neg (by rw [hb]; decide)]
  · rintro H2 e2 σ' H' ⟨e3, f, x0, y0, rfl, hw⟩
    refine s_ret (ev_var rfl) fun H4 e5 => q _ H4 (((e1.trans e2).trans e3).trans e5) ?_
    rw [hw, Lad.ds_length, Lad.drop_end (Nat.le_refl _), Lad.word]
    exact .str _
end
end Fell

/-! FL5 -/
set_option Elab.async false
set_option linter.all false
set_option maxRecDepth 100000
set_option maxHeartbeats 4000000
/-! A book on the heap; promises that tell of a book; what comes to one of several data. -/
namespace Fell
open PySem PySem.Spec PyProof.Rows L2 Evl
/-- a dict with texts for keys, as far as f tells -/
def DictAt (K : KK) (H : Hp) (l : Addr) (n : Nat) (S : Str → Prop) (f : Str → PyData → Prop) : Prop := ∃ kvs, H l = some (.dK kvs) ∧ kvs.length ≤ n ∧ ∀ k, S k → ∃ v d, valV kvs (.inr k) = some v ∧ Dp K H v d ∧ f k d
structure BookAt (K : KK) (B : Addr) (H : Hp) (b : Addr) (bk : List Kind) : Prop where
  at_ : ∃ dx lt wd ys, H b = some (.ins B dx [("told", .ref lt), ("wide", .ref wd), ("ways", .ref ys)]) ∧ H lt = some (.lst ((names bk).map V.str)) ∧
    DictAt K H wd 8 (· ∈ names bk) (fun k d => d = .bool (sprOf bk k)) ∧ DictAt K H ys 8 (· ∈ names bk) (fun k d => d = .list ((rulesOf bk k).map ruleD))
  ok : BookOk bk
  sg : ∀ n ∈ names bk, okS n
section
variable {K : KK} {B b : Addr} {H H' : Hp} {bk : List Kind} {σ : L2.St} {ta tb te : TE} {d : PyData} {ds : List PyData} {x : Str}
theorem DictAt.ex {l : Addr} {S : Str → Prop} {f : Str → PyData → Prop} {n : Nat} (h : DictAt K H l n S f) (e : Ex H H') : DictAt K H' l n S f :=
  let ⟨kvs, h1, h2, h3⟩ := h
  ⟨kvs, e _ _ h1, h2, fun k hk => let ⟨v, d, a, b, c⟩ := h3 k hk; ⟨v, d, a, dp_ex e b, c⟩⟩
theorem BookAt.ex (h : BookAt K B H b bk) (e : Ex H H') : BookAt K B H' b bk :=
  let ⟨dx, lt, wd, ys, h1, h2, h3, h4⟩ := h.at_
  ⟨⟨dx, lt, wd, ys, e _ _ h1, e _ _ h2, h3.ex e, h4.ex e⟩, h.ok, h.sg⟩
/-- te comes to one of the data that Pst tells -/
def EvP (K : KK) (te : TE) (σ : L2.St) (H : Hp) (Pst : PyData → Prop) : Prop := ∀ H1, Ex H H1 → ∀ Q : VK, (∀ d v H2, Pst d → Ex H1 H2 → Dp K H2 v d → Q v H2) → te σ H1 Q
theorem EvP.toD {Pst : PyData → Prop} (h : EvP K te σ H Pst) (e : ∀ d', Pst d' → d' = d) : EvD K te σ H d := fun H1 a Q q => h H1 a Q fun d' v H2 p e2 hv => by
  have := e d' p
  subst this
  exact q v H2 e2 hv
theorem EvD.toP {Pst : PyData → Prop} (h : EvD K te σ H d) (p : Pst d) : EvP K te σ H Pst := fun H1 a Q q => h H1 a Q fun v H2 e2 hv => q d v H2 p e2 hv
theorem EvP.mono {Pst : PyData → Prop} (h : EvP K te σ H Pst) (e : Ex H H') : EvP K te σ H' Pst := fun H1 a Q q => h H1 (e.trans a) Q q
theorem EvP.imp {P1 P2 : PyData → Prop} (h : EvP K te σ H P1) (f : ∀ d, P1 d → P2 d) : EvP K te σ H P2 := fun H1 a Q q => h H1 a Q fun d v H2 p e hv => q d v H2 (f d p) e hv
section
variable {D : Ends} {tz : TS} {g : TG} {Pst : PyData → Prop}
theorem q_asgP (h : EvP K te σ H Pst) (k : ∀ d v H1, Pst d → Ex H H1 → Dp K H1 v d → g v σ H1 (tz D)) : tSeq (tAsg te g) tz D σ H := h H (Ex.refl H) _ k
theorem s_asgP (h : EvP K te σ H Pst) (k : ∀ d v H1, Pst d → Ex H H1 → Dp K H1 v d → g v σ H1 D.nx) : tAsg te g D σ H := h H (Ex.refl H) _ k
theorem s_retP (h : EvP K te σ H Pst) (k : ∀ d v H1, Pst d → Ex H H1 → Dp K H1 v d → D.rt v H1) : tRet te D σ H := h H (Ex.refl H) _ k
theorem q_dropD (h : EvD K te σ H d) (k : ∀ H1, Ex H H1 → tz D σ H1) : tSeq (tDrop te) tz D σ H := h H (Ex.refl H) _ fun v H1 e _ => k H1 e
end
/-- called with a book and what ds are -/
def spB (K : KK) (B : Addr) (Pre : List Kind → List PyData → Prop) (Post : List Kind → List PyData → PyData → Prop) : Sp := fun vs H Q _ => ∃ b vs' bk ds, vs = .ref b :: vs' ∧ BookAt K B H b bk ∧ Pre bk ds ∧ DpAll K H vs' ds ∧
  ∀ d v H2, Post bk ds d → Ex H H2 → Dp K H2 v d → Q v H2
theorem spB_len {Pre : List Kind → List PyData → Prop} {Post : List Kind → List PyData → PyData → Prop} {n : Nat} (h : ∀ bk ds, Pre bk ds → ds.length = n) : ∀ vs H Q E, spB K B Pre Post vs H Q E → vs.length = n + 1 := fun vs H Q E ⟨b, vs', bk, ds, e, _, p, hv, _⟩ => by
  rw [e, List.length_cons, dpa_len hv, h bk ds p]
theorem ep_call {Pre : List Kind → List PyData → Prop} {Post : List Kind → List PyData → PyData → Prop} {E : XK} {tr : TA} (hb : Ev ta σ H (.ref b)) (ba : BookAt K B H b bk) (h : EvDA K tr σ H ds) (p : Pre bk ds) : EvP K (tCall (spB K B Pre Post) [] E (tCons ta tr)) σ H (Post bk ds) := fun H1 e Q q =>
  hb H1 e _ fun H2 e2 => h H2 (e.trans e2) _ fun vs H3 e3 hv => by
    show spB K B Pre Post (.ref b :: (vs ++ [])) H3 Q E
    rw [List.append_nil]
    exact ⟨b, vs, bk, ds, rfl, ba.ex ((e.trans e2).trans e3), p, hv, fun d v H4 ps e4 hd => q d v H4 ps ((e2.trans e3).trans e4) hd⟩
def meths : List Str := ["names", "spreads", "rules", "look_for"]
theorem ep_meth {m : Str} {Pre : List Kind → List PyData → Prop} {Post : List Kind → List PyData → PyData → Prop} {E : XK} {tr : TA} (hb : Ev ta σ H (.ref b)) (ba : BookAt K B H b bk) (h : EvDA K tr σ H ds) (p : Pre bk ds) (hm : m ∈ meths := by decide) : EvP K (tMeth B m (spB K B Pre Post) [] E ta tr) σ H (Post bk ds) := fun H1 e Q q =>
  hb H1 e _ fun H2 e2 => by
    have ba2 := ba.ex (e.trans e2)
    obtain ⟨dx, lt, wd, ys, h1, _⟩ := ba2.at_
    have hl : ∀ v1 v2 v3, List.lookup m [(("told" : Str), (v1 : V)), ("wide", v2), ("ways", v3)] = none := fun v1 v2 v3 => by
      simp only [meths, List.mem_cons, List.not_mem_nil, or_false] at hm
      rcases hm with rfl | rfl | rfl | rfl <;> rfl
    refine ⟨b, dx, _, rfl, h1, hl _ _ _, h H2 (e.trans e2) _ fun vs H3 e3 hv => ?_⟩
    show spB K B Pre Post (.ref b :: (vs ++ [])) H3 Q E
    rw [List.append_nil]
    exact ⟨b, vs, bk, ds, rfl, ba2.ex e3, p, hv, fun d v H4 ps e4 hd => q d v H4 ps ((e2.trans e3).trans e4) hd⟩
/-! ### fields -/
theorem ed_told (cB : Cls K B) (fT : NoAttr K B "told") (hb : Ev ta σ H (.ref b)) (ba : BookAt K B H b bk) : EvD K (tFld K ta "told") σ H (.list ((names bk).map PyData.str)) := fun H1 e Q q => hb H1 e _ fun H2 e2 => by
  obtain ⟨dx, lt, wd, ys, h1, h2, _⟩ := (ba.ex (e.trans e2)).at_
  exact ⟨b, B, dx, _, .ref lt, rfl, h1, cB, fT, rfl, q _ H2 e2 (.lst (sq_of h2) (dpa_strs _))⟩
theorem kv_get {S : Str → Prop} {f : Str → PyData → Prop} {td ty : TE} {l : Addr} (hd : Ev td σ H (.ref l)) (hk : EvD K ty σ H (.str x)) {n : Nat} (h : DictAt K H l n S f) (hx : S x) : EvP K (tDGet td ty) σ H (f x) := fun H1 e Q q =>
  hd H1 e _ fun H2 e2 => hk H2 (e.trans e2) _ fun v H3 e3 hv => by
    obtain ⟨kvs, h1, h2, h3⟩ := h.ex ((e.trans e2).trans e3)
    obtain ⟨u, d, a1, a2, a3⟩ := h3 x hx
    refine ⟨l, u, rfl, ?_, q d u H3 a3 (e2.trans e3) a2⟩
    rw [dp_str hv]
    have g := DGet.k (k := Sum.inr x) h1
    rw [a1] at g
    exact g
theorem fld_wide (cB : Cls K B) (fT : NoAttr K B "wide") (hb : Ev ta σ H (.ref b)) (ba : BookAt K B H b bk) : ∃ l, Ev (tFld K ta "wide") σ H (.ref l) ∧ DictAt K H l 8 (· ∈ names bk) (fun k d => d = .bool (sprOf bk k)) := by
  obtain ⟨dx, lt, wd, ys, h1, h2, h3, h4⟩ := ba.at_
  exact ⟨wd, fun H1 e Q q => hb H1 e _ fun H2 e2 => ⟨b, B, dx, _, .ref wd, rfl, (e.trans e2) _ _ h1, cB, fT, rfl, q H2 e2⟩, h3⟩
theorem fld_ways (cB : Cls K B) (fT : NoAttr K B "ways") (hb : Ev ta σ H (.ref b)) (ba : BookAt K B H b bk) : ∃ l, Ev (tFld K ta "ways") σ H (.ref l) ∧ DictAt K H l 8 (· ∈ names bk) (fun k d => d = .list ((rulesOf bk k).map ruleD)) := by
  obtain ⟨dx, lt, wd, ys, h1, h2, h3, h4⟩ := ba.at_
  exact ⟨ys, fun H1 e Q q => hb H1 e _ fun H2 e2 => ⟨b, B, dx, _, .ref ys, rfl, (e.trans e2) _ _ h1, cB, fT, rfl, q H2 e2⟩, h4⟩
/-! ### comprehensions over one of several lists -/
theorem ep_lcL {t : TT} {g : TG} {α : Type} {enc out : α → PyData} {Good : List α → Prop} {f : α → Bool} {tl : TE} {vs : List Nat} (h : EvP K tl σ H (fun d => ∃ ls, Good ls ∧ d = .list (ls.map enc))) (hz : ∀ ls, Good ls → ls.length ≤ 40000) (ho : ∀ ls, Good ls → ∀ a ∈ ls, f a = true → noL (out a) = true)
    (hb : ∀ ls, Good ls → ∀ a ∈ ls, ∀ v H1, Ex H H1 → Dp K H1 v (enc a) → ∀ R : L2.St → Hp → Prop, (∀ σ2 H2, Ex H1 H2 → wipe σ2 vs = wipe σ vs → EvT t σ2 H2 (f a) → (f a = true → EvD K te σ2 H2 (out a)) → R σ2 H2) → g v (wipe σ vs) H1 R) :
    EvP K (tLc (iList K tl) g t te vs) σ H (fun d => ∃ ls, Good ls ∧ d = .list ((ls.filter f).map out)) := fun H0 e Q q => h H0 e _ fun d v H1 ⟨ls, good, ed⟩ e1 hv => by
  subst ed
  obtain ⟨a, xs, rfl, hs, hx⟩ := dp_lst hv
  have hl := dpa_len hx
  rw [List.length_map] at hl
  refine ⟨a, rfl, ⟨xs, hs⟩, fun Dl hD => lc_list (xs := xs) (fun i H' => H1 Dl = none ∧ Ex H1 H' ∧ ∃ acc, H' Dl = some (.lst acc) ∧ DpAll K H' acc (((ls.take i).filter f).map out)) ⟨hD, Ex.new hD, [], upd_same, .nil⟩ (fun i H' _ p => ex_l p.2.1 hs) (fun i x H2 hi p => ?_) fun H2 p => ?_⟩
  · obtain ⟨p1, p2, acc, p3, p4⟩ := p
    obtain ⟨d, h1, h2⟩ := dpa_get hx hi
    rw [List.getElem?_map] at h1
    cases hai : ls[i]? with
    | none => rw [hai] at h1; cases h1
    | some b =>
      rw [hai] at h1
      cases h1
      exact lc_turnD (f := f) (enc := enc) (ho ls good) (hz ls good) (fun R k => hb ls good b (List.mem_of_getElem? hai) x H2 ((e.trans e1).trans p2) (dp_ex p2 h2) R fun σ2 H3 e3 w a b => k σ2 H3 e3 w a b) hai p1 p2 p3 p4
  · obtain ⟨p1, p2, acc, p3, p4⟩ := p
    rw [hl, List.take_length] at p4
    exact q _ _ H2 ⟨ls, good, rfl⟩ (e1.trans p2) (.lst (sq_of p3) p4)
/-- a built-in over one of several -/
theorem ep_cb {r : List V → Hp → VK → Prop} {P1 : PyData → Prop} {f : PyData → PyData → Prop} (h : EvP K ta σ H P1) (hs : ∀ d, P1 d → ∀ v H1, Ex H H1 → Dp K H1 v d → ∀ Q : VK, (∀ d' v' H2, f d d' → Ex H1 H2 → Dp K H2 v' d' → Q v' H2) → r [v] H1 Q) : EvP K (tCB r (tCons ta tNil)) σ H (fun d' => ∃ d, P1 d ∧ f d d') := fun H1 e Q q =>
  h H1 e _ fun d v H2 p e2 hv => hs d p v H2 (e.trans e2) hv Q fun d' v' H3 hf e3 h3 => q d' v' H3 ⟨d, p, hf⟩ (e2.trans e3) h3
/-- all(..) of bools whose answer is b, whichever they are -/
theorem ev_allP {P1 : PyData → Prop} {b : Bool} (h : EvP K ta σ H P1) (hb : ∀ d, P1 d → ∃ bs : List Bool, d = .list (bs.map PyData.bool) ∧ bs.all id = b) : Ev (tCB (rAll K) (tCons ta tNil)) σ H (.bl b) := fun H1 e Q q => h H1 e _ fun d v H2 p e2 hv => by
  obtain ⟨bs, rfl, hb⟩ := hb d p
  obtain ⟨a, xs, rfl, hs, hx⟩ := dp_lst hv
  rw [dpa_bools_eq hx] at hs
  refine ⟨a, bs, rfl, hs, ?_⟩
  rw [hb]
  exact q H2 e2
theorem ev_anyP {P1 : PyData → Prop} {b : Bool} (h : EvP K ta σ H P1) (hb : ∀ d, P1 d → ∃ bs : List Bool, d = .list (bs.map PyData.bool) ∧ bs.any id = b) : Ev (tCB (rAny K) (tCons ta tNil)) σ H (.bl b) := fun H1 e Q q => h H1 e _ fun d v H2 p e2 hv => by
  obtain ⟨bs, rfl, hb⟩ := hb d p
  obtain ⟨a, xs, rfl, hs, hx⟩ := dp_lst hv
  rw [dpa_bools_eq hx] at hs
  refine ⟨a, bs, rfl, hs, ?_⟩
  rw [hb]
  exact q H2 e2
end
end Fell

/-! FL6 -/
set_option Elab.async false
set_option linter.all false
set_option maxRecDepth 100000
set_option maxHeartbeats 4000000
/-! Expressions that come to a list which is known as such. -/
namespace Fell
open PySem PySem.Spec PyProof.Rows L2 Evl
theorem noLs_mem : ∀ {l : List PyData} {d : PyData}, noLs l = true → d ∈ l → noL d = true
  | b :: l, d, hn, hm => by
    have n' : noL b = true ∧ noLs l = true := by simpa [noLs] using hn
    rcases List.mem_cons.mp hm with e | hm
    · rw [e]; exact n'.1
    · exact noLs_mem n'.2 hm
def EvK (K : KK) (te : TE) (σ : L2.St) (H : Hp) (fs : List PyData) : Prop := ∀ H1, Ex H H1 → ∀ Q : VK, (∀ p H2, Ex H1 H2 → LstAt K H2 p fs → Q (.ref p) H2) → te σ H1 Q
section
variable {K : KK} {σ : L2.St} {H H' : Hp} {L : Addr} {fs es ds : List PyData} {d : PyData} {ta tb te : TE} {tz : TS} {D : Ends} {t : TT} {g : TG}
/-- .. a new one -/
def EvF (K : KK) (te : TE) (σ : L2.St) (H : Hp) (fs : List PyData) : Prop := ∀ H1, Ex H H1 → ∀ Q : VK, (∀ p H2, H1 p = none → Ex H1 H2 → LstAt K H2 p fs → Q (.ref p) H2) → te σ H1 Q
theorem EvF.k (h : EvF K te σ H fs) : EvK K te σ H fs := fun H1 e Q q => h H1 e Q fun p H2 _ e2 l => q p H2 e2 l
theorem EvF.mono (h : EvF K te σ H fs) (e : Ex H H') : EvF K te σ H' fs := fun H1 a Q q => h H1 (e.trans a) Q q
theorem EvK.d0 (h : EvK K te σ H fs) : EvD K te σ H (.list fs) := fun H1 e Q q => h H1 e Q fun p H2 e2 l => q _ H2 e2 l.dp
theorem EvF.d0 (h : EvF K te σ H fs) : EvD K te σ H (.list fs) := h.k.d0
theorem EvK.mono (h : EvK K te σ H fs) (e : Ex H H') : EvK K te σ H' fs := fun H1 a Q q => h H1 (e.trans a) Q q
theorem ek_var {i : Nat} (h : σ[i]? = some (some (.ref L))) (l : LstAt K H L fs) : EvK K (tVar i) σ H fs := fun H1 e Q q => ⟨_, h, q L H1 (Ex.refl _) (l.ex e)⟩
theorem ek_ev (h : Ev te σ H (.ref L)) (l : LstAt K H L fs) : EvK K te σ H fs := fun H1 e Q q => h H1 e Q fun H2 e2 => q L H2 e2 (l.ex (e.trans e2))
theorem ek_lst {ta : TA} (h : EvDA K ta σ H fs) (hl : fs.length ≤ 100000) : EvF K (tLst ta) σ H fs := fun H1 e _ q =>
  h H1 e _ fun vs H2 e2 hv => ⟨sz_of (by rw [dpa_len hv]; exact hl), fun p hp => q p _ (fresh_back e2 hp) (e2.trans (Ex.new hp)) ⟨vs, upd_same, dpa_ex (Ex.new hp) hv⟩⟩
theorem ek_cat (ha : EvK K ta σ H fs) (hb : EvK K tb σ H es) (hl : fs.length + es.length ≤ 100000) : EvF K (tOp rCat ta tb) σ H (fs ++ es) := fun H1 e _ q =>
  ha H1 e _ fun p H2 e2 l1 => hb H2 (e.trans e2) _ fun r H3 e3 l2 => by
    obtain ⟨xs, h1, p1⟩ := l1.ex e3
    obtain ⟨ys, h2, p2⟩ := l2
    have n1 := dpa_len p1
    have n2 := dpa_len p2
    exact ⟨p, r, xs, ys, rfl, rfl, h1, h2, sz_of (by omega), fun s hs => q s _ (fresh_back (e2.trans e3) hs) ((e2.trans e3).trans (Ex.new hs)) ⟨_, upd_same, dpa_ex (Ex.new hs) (dpa_app p1 p2)⟩⟩
theorem ek_listL (ha : EvD K ta σ H (.list fs)) : EvF K (tCB (rListS K) (tCons ta tNil)) σ H fs := fun H1 e _ q => ha H1 e _ fun v H2 e2 hv => by
  obtain ⟨a, xs, rfl, hs, hx⟩ := dp_lst hv
  exact ⟨a, xs, rfl, .inl hs, fun l hl => q l _ (fresh_back e2 hl) (e2.trans (Ex.new hl)) ⟨xs, upd_same, dpa_ex (Ex.new hl) hx⟩⟩
/-- xs[i:] -/
theorem ek_slL {i : Nat} {tl : TE} (ha : EvD K ta σ H (.list fs)) (hl : EvD K tl σ H (.int (i : Int))) (hi : i ≤ fs.length) : EvF K (tSl (rSlL K) ta (tPart tl) tNoPart) σ H (fs.drop i) := fun H1 e Q q =>
  ha H1 e _ fun v H2 e2 hv => hl H2 (e.trans e2) _ fun w H3 e3 hw => ⟨(i : Int), dp_int hw, by
    obtain ⟨a, xs, rfl, hs, hx⟩ := dp_lst (dp_ex e3 hv)
    have hl2 := dpa_len hx
    refine ⟨a, xs, rfl, hs, fun p hp => ?_⟩
    rw [cut_from (by omega)]
    exact q p _ (fresh_back (e2.trans e3) hp) ((e2.trans e3).trans (Ex.new hp)) ⟨_, upd_same, dpa_ex (Ex.new hp) (dpa_drop i hx)⟩⟩
theorem ek_lcL {α : Type} {enc out : α → PyData} {ls : List α} {f : α → Bool} {tl : TE} {vs : List Nat} (h : EvD K tl σ H (.list (ls.map enc))) (hz : ls.length ≤ 40000) (ho : ∀ a ∈ ls, f a = true → noL (out a) = true)
    (hb : ∀ a ∈ ls, ∀ v H1, Ex H H1 → Dp K H1 v (enc a) → ∀ R : L2.St → Hp → Prop, (∀ σ2 H2, Ex H1 H2 → wipe σ2 vs = wipe σ vs → EvT t σ2 H2 (f a) → (f a = true → EvD K te σ2 H2 (out a)) → R σ2 H2) → g v (wipe σ vs) H1 R) :
    EvF K (tLc (iList K tl) g t te vs) σ H ((ls.filter f).map out) := fun H0 e Q q => h H0 e _ fun v H1 e1 hv => by
  obtain ⟨a, xs, rfl, hs, hx⟩ := dp_lst hv
  have hl := dpa_len hx
  rw [List.length_map] at hl
  refine ⟨a, rfl, ⟨xs, hs⟩, fun Dl hD => lc_list (xs := xs) (fun i H' => H1 Dl = none ∧ Ex H1 H' ∧ ∃ acc, H' Dl = some (.lst acc) ∧ DpAll K H' acc (((ls.take i).filter f).map out)) ⟨hD, Ex.new hD, [], upd_same, .nil⟩ (fun i H' _ p => ex_l p.2.1 hs) (fun i x H2 hi p => ?_) fun H2 p => ?_⟩
  · obtain ⟨p1, p2, acc, p3, p4⟩ := p
    obtain ⟨d, h1, h2⟩ := dpa_get hx hi
    rw [List.getElem?_map] at h1
    cases hai : ls[i]? with
    | none => rw [hai] at h1; cases h1
    | some b =>
      rw [hai] at h1
      cases h1
      exact lc_turnD (f := f) (enc := enc) ho hz (fun R k => hb b (List.mem_of_getElem? hai) x H2 ((e.trans e1).trans p2) (dp_ex p2 h2) R fun σ2 H3 e3 w a b => k σ2 H3 e3 w a b) hai p1 p2 p3 p4
  · obtain ⟨p1, p2, acc, p3, p4⟩ := p
    rw [hl, List.take_length] at p4
    exact q _ H2 (fresh_back e1 p1) (e1.trans p2) ⟨acc, p3, p4⟩
/-- L.extend(te) -/
theorem s_extK (hl : LstAt K H L fs) (hn : noLs fs = true) (ne : noLs es = true) (ha : ∀ H1, Ex H H1 → Ev ta σ H1 (.ref L)) (h : EvK K te σ H es) (hz : fs.length + es.length ≤ 100000) (k : ∀ H2, Mut L H H2 → LstAt K H2 L (fs ++ es) → D.nx σ H2) :
    tDrop (tBM K "list" rExtend ta (tCons te tNil)) D σ H := ha H (Ex.refl H) H (Ex.refl H) _ fun H1 e1 => by
  obtain ⟨xs, hx, hp⟩ := hl
  refine ⟨Or.inl ⟨rfl, xs, sq_of (e1 L _ hx)⟩, h H1 e1 _ fun p H2 e2 ⟨ys, hy, hq⟩ => ?_⟩
  have h2 := e2 L _ (e1 L _ hx)
  have n1 := dpa_len hp
  have n2 := dpa_len hq
  refine ⟨L, p, xs, ys, rfl, rfl, h2, hy, sz_of (by omega), ?_⟩
  have tx : Tx H2 (upd H2 L (.lst (xs ++ ys))) := tx_lst h2
  exact k _ (.exl (e1.trans e2) .upd) ⟨_, upd_same, dpa_app (dpa_tx tx hn (dpa_ex (e1.trans e2) hp)) (dpa_tx tx ne hq)⟩
theorem q_extK (hl : LstAt K H L fs) (hn : noLs fs = true) (ne : noLs es = true) (ha : ∀ H1, Ex H H1 → Ev ta σ H1 (.ref L)) (h : EvK K te σ H es) (hz : fs.length + es.length ≤ 100000) (k : ∀ H2, Mut L H H2 → LstAt K H2 L (fs ++ es) → tz D σ H2) :
    tSeq (tDrop (tBM K "list" rExtend ta (tCons te tNil))) tz D σ H := s_extK (D := { D with nx := tz D }) hl hn ne ha h hz k
theorem q_asgK {i : Nat} (h : EvK K te σ H fs) (k : ∀ p H1, Ex H H1 → LstAt K H1 p fs → tz D (σ.set i (some (.ref p))) H1) : tSeq (tAsg te (gName i)) tz D σ H := h H (Ex.refl H) _ k
theorem s_asgK {i : Nat} (h : EvK K te σ H fs) (k : ∀ p H1, Ex H H1 → LstAt K H1 p fs → D.nx (σ.set i (some (.ref p))) H1) : tAsg te (gName i) D σ H := h H (Ex.refl H) _ k
/-- promises on data that hand back a list -/
def spL (K : KK) (R : List PyData → List PyData → Prop) : Sp := fun vs H Q _ => ∃ ds fs, R ds fs ∧ DpAll K H vs ds ∧ ∀ p H2, H p = none → Ex H H2 → LstAt K H2 p fs → Q (.ref p) H2
theorem spL_len {R : List PyData → List PyData → Prop} {n : Nat} (h : ∀ ds d, R ds d → ds.length = n) : ∀ vs H Q E, spL K R vs H Q E → vs.length = n := fun vs H Q E ⟨ds, d, r, hv, _⟩ => by rw [dpa_len hv]; exact h ds d r
theorem ek_call {R : List PyData → List PyData → Prop} {E : XK} {ta : TA} (h : EvDA K ta σ H ds) (r : R ds fs) : EvF K (tCall (spL K R) [] E ta) σ H fs := fun H1 e Q q =>
  h H1 e _ fun vs H2 e2 hv => by
    show spL K R (vs ++ []) H2 Q E
    rw [List.append_nil]
    exact ⟨ds, fs, r, hv, fun p H3 hp e3 l => q p H3 (fresh_back e2 hp) (e2.trans e3) l⟩
end
end Fell
namespace Fell
open PySem PySem.Spec PyProof.Rows L2 Evl
section
variable {K : KK} {σ : L2.St} {H H' : Hp} {tu : TS} {g : TG} {D : Ends} {ds es : List PyData}
/-- over enumerate(a tuple without lists): other things may change -/
theorem s_forETx {tz : TA} (h : EvDA K tz σ H [.tuple ds]) (hn : noLs ds = true) (Pv : Hp → Nat → L2.St → Hp → Prop) (h0 : ∀ H1, Ex H H1 → Pv H1 0 σ H1) (ht : ∀ H1 i σ' H', Pv H1 i σ' H' → Tx H1 H')
    (hs : ∀ H1, Ex H H1 → ∀ (i : Nat) d x σ' H0 H', ds[i]? = some d → Dp K H' x (.tuple [.int (i : Nat), d]) → Pv H1 i σ' H0 → Ex H0 H' → g x σ' H' fun σ2 H2 => tu { D with nx := Pv H1 (i + 1), ct := Pv H1 (i + 1), bk := D.nx } σ2 H2)
    (hd : ∀ H1, Ex H H1 → ∀ σ' H', Pv H1 ds.length σ' H' → D.nx σ' H') : tFor (iEnumT K tz) g tu D σ H := h H (Ex.refl H) _ fun vs H1 e1 hv => by
  obtain ⟨v, rfl, h1⟩ := dpa_one hv
  obtain ⟨a, xs, rfl, hq, hx⟩ := dp_tup h1
  refine ⟨a, xs, rfl, hq, for_enumT (Pv H1) (h0 H1 e1) (fun i σ' H' p => tx_t (ht H1 i σ' H' p) hq) (fun i x T σ' H' hi p hT => ?_) fun σ' H' p => ?_⟩
  · obtain ⟨d, d1, d2⟩ := dpa_get hx hi
    have nd : noL d = true := noLs_mem hn (List.mem_of_getElem? d1)
    have E := (ht H1 i σ' H' p).trans (tx_ex (Ex.new (o := .tup [.int (i : Nat), x]) hT))
    exact hs H1 e1 i d _ σ' H' _ d1 (.tup (st_of upd_same) (.cons (.int _) (.cons (dp_tx E nd d2) .nil))) p (Ex.new hT)
  · rw [dpa_len hx] at p
    exact hd H1 e1 σ' H' p
end
end Fell
namespace Fell
open PySem PySem.Spec PyProof.Rows L2 Evl
/-- i, (j, l) = .. -/
theorem g_nest {K : KK} {σ : L2.St} {H : Hp} {v : V} {i j l : Nat} {d e e' : PyData} {R : L2.St → Hp → Prop} (h : Dp K H v (.tuple [d, .tuple [e, e']])) (k : ∀ w1 w2 w3, Dp K H w1 d → Dp K H w2 e → Dp K H w3 e' → R (((σ.set i (some w1)).set j (some w2)).set l (some w3)) H) :
    gTup K 2 (gCons (gName i) (gCons (gTup K 2 (gCons (gName j) (gCons (gName l) gNil))) gNil)) v σ H R := by
  obtain ⟨a, xs, rfl, hs, hx⟩ := dp_tup h
  obtain ⟨w1, w2, rfl, h1, h2⟩ := dpa_two hx
  obtain ⟨a', xs', rfl, hs', hx'⟩ := dp_tup h2
  obtain ⟨w3, w4, rfl, h3, h4⟩ := dpa_two hx'
  exact ⟨a, _, rfl, hs, rfl, w1, _, rfl, _, _, rfl, ⟨a', _, rfl, hs', rfl, w3, _, rfl, w4, _, rfl, rfl, rfl, k w1 w3 w4 h1 h3 h4⟩⟩
end Fell
namespace Fell
open PySem PySem.Spec PyProof.Rows L2 Evl
theorem keep_of {K : KK} {L p : Addr} {H H1 H' : Hp} {o : HO} {fs : List PyData} (m : Mut L H1 H') (hp : H p = none) (hL : H L = some o) (l : LstAt K H1 p fs) : H' p = H1 p := by
  obtain ⟨xs, h, _⟩ := l
  rw [h]
  exact m p _ (fun e => by rw [e, hL] at hp; cases hp) h
section
variable {K : KK} {σ : L2.St} {H H' : Hp} {tu : TS} {g : TG} {D : Ends} {fs : List PyData}
/-- a loop over a new list; what it changes is told by Pv -/
theorem s_forLF {tl : TE} (h : EvF K tl σ H fs) (hn : noLs fs = true) (Pv : Addr → Hp → Nat → L2.St → Hp → Prop) (h0 : ∀ p H1, H p = none → Ex H H1 → LstAt K H1 p fs → Pv p H1 0 σ H1)
    (ht : ∀ p H1, H p = none → Ex H H1 → LstAt K H1 p fs → ∀ i σ' H', Pv p H1 i σ' H' → H' p = H1 p ∧ Tx H1 H')
    (hs : ∀ p H1, H p = none → Ex H H1 → LstAt K H1 p fs → ∀ i d x σ' H', fs[i]? = some d → Dp K H' x d → Pv p H1 i σ' H' → g x σ' H' fun σ2 H2 => tu { D with nx := Pv p H1 (i + 1), ct := Pv p H1 (i + 1), bk := D.nx } σ2 H2)
    (hd : ∀ p H1, H p = none → Ex H H1 → LstAt K H1 p fs → ∀ σ' H', Pv p H1 fs.length σ' H' → D.nx σ' H') : tFor (iList K tl) g tu D σ H := h H (Ex.refl H) _ fun p H1 hp e1 l => by
  obtain ⟨xs, hq, hx⟩ := id l
  refine ⟨p, rfl, ⟨xs, sq_of hq⟩, for_list (Pv p H1) (h0 p H1 hp e1 l) (fun i σ' H' _ pv => sq_of ((ht p H1 hp e1 l i σ' H' pv).1.trans hq)) (fun i x σ' H' hi pv => ?_) fun σ' H' pv => ?_⟩
  · obtain ⟨d, h1, h2⟩ := dpa_get hx hi
    exact hs p H1 hp e1 l i d x σ' H' h1 (dp_tx (ht p H1 hp e1 l i σ' H' pv).2 (noLs_mem hn (List.mem_of_getElem? h1)) h2) pv
  · rw [dpa_len hx] at pv
    exact hd p H1 hp e1 l σ' H' pv
/-- over enumerate(a new list) -/
theorem s_forEF {tl : TE} (h : EvF K tl σ H fs) (hn : noLs fs = true) (Pv : Addr → Hp → Nat → L2.St → Hp → Prop) (h0 : ∀ p H1, H p = none → Ex H H1 → LstAt K H1 p fs → Pv p H1 0 σ H1)
    (ht : ∀ p H1, H p = none → Ex H H1 → LstAt K H1 p fs → ∀ i σ' H', Pv p H1 i σ' H' → H' p = H1 p ∧ Tx H1 H')
    (hs : ∀ p H1, H p = none → Ex H H1 → LstAt K H1 p fs → ∀ (i : Nat) d x σ' H0 H', fs[i]? = some d → Dp K H' x (.tuple [.int (i : Nat), d]) → Pv p H1 i σ' H0 → Ex H0 H' → g x σ' H' fun σ2 H2 => tu { D with nx := Pv p H1 (i + 1), ct := Pv p H1 (i + 1), bk := D.nx } σ2 H2)
    (hd : ∀ p H1, H p = none → Ex H H1 → LstAt K H1 p fs → ∀ σ' H', Pv p H1 fs.length σ' H' → D.nx σ' H') : tFor (iEnum K (tCons tl tNil)) g tu D σ H := h H (Ex.refl H) _ fun p H1 hp e1 l => by
  obtain ⟨xs, hq, hx⟩ := id l
  refine ⟨p, xs, rfl, sq_of hq, for_enumL (Pv p H1) (h0 p H1 hp e1 l) (fun i σ' H' pv => sq_of ((ht p H1 hp e1 l i σ' H' pv).1.trans hq)) (fun i x T σ' H' hi pv hT => ?_) fun σ' H' pv => ?_⟩
  · obtain ⟨d, d1, d2⟩ := dpa_get hx hi
    have nd : noL d = true := noLs_mem hn (List.mem_of_getElem? d1)
    have E := (ht p H1 hp e1 l i σ' H' pv).2.trans (tx_ex (Ex.new (o := .tup [.int (i : Nat), x]) hT))
    exact hs p H1 hp e1 l i d _ σ' H' _ d1 (.tup (st_of upd_same) (.cons (.int _) (.cons (dp_tx E nd d2) .nil))) pv (Ex.new hT)
  · rw [dpa_len hx] at pv
    exact hd p H1 hp e1 l σ' H' pv
/-- a book-call that hands back a new list -/
def spBL (K : KK) (B : Addr) (Pre : List Kind → List PyData → Prop) (Post : List Kind → List PyData → List PyData → Prop) : Sp := fun vs H Q _ => ∃ b vs' bk ds, vs = .ref b :: vs' ∧ BookAt K B H b bk ∧ Pre bk ds ∧ DpAll K H vs' ds ∧
  ∀ fs p H2, Post bk ds fs → H p = none → Ex H H2 → LstAt K H2 p fs → Q (.ref p) H2
theorem spBL_len {B : Addr} {Pre : List Kind → List PyData → Prop} {Post : List Kind → List PyData → List PyData → Prop} {n : Nat} (h : ∀ bk ds, Pre bk ds → ds.length = n) : ∀ vs H Q E, spBL K B Pre Post vs H Q E → vs.length = n + 1 := fun vs H Q E ⟨b, vs', bk, ds, e, _, p, hv, _⟩ => by
  rw [e, List.length_cons, dpa_len hv, h bk ds p]
/-- te comes to a new list, one of those that Pst tells -/
def EvFP (K : KK) (te : TE) (σ : L2.St) (H : Hp) (Pst : List PyData → Prop) : Prop := ∀ H1, Ex H H1 → ∀ Q : VK, (∀ fs p H2, Pst fs → H1 p = none → Ex H1 H2 → LstAt K H2 p fs → Q (.ref p) H2) → te σ H1 Q
section
variable {te ta : TE} {B b : Addr} {bk : List Kind} {ds : List PyData} {Pst : List PyData → Prop} {tz : TS}
theorem EvFP.f (h : EvFP K te σ H Pst) (e : ∀ fs', Pst fs' → fs' = fs) : EvF K te σ H fs := fun H1 a Q q => h H1 a Q fun fs' p H2 ps hp e2 l => by
  have := e fs' ps
  subst this
  exact q p H2 hp e2 l
theorem EvFP.toP (h : EvFP K te σ H Pst) : EvP K te σ H (fun d => ∃ fs, Pst fs ∧ d = .list fs) := fun H1 a Q q => h H1 a Q fun fs p H2 ps _ e2 l => q _ _ H2 ⟨fs, ps, rfl⟩ e2 l.dp
theorem ef_call {Pre : List Kind → List PyData → Prop} {Post : List Kind → List PyData → List PyData → Prop} {E : XK} {tr : TA} (hb : Ev ta σ H (.ref b)) (ba : BookAt K B H b bk) (h : EvDA K tr σ H ds) (p : Pre bk ds) : EvFP K (tCall (spBL K B Pre Post) [] E (tCons ta tr)) σ H (Post bk ds) := fun H1 e Q q =>
  hb H1 e _ fun H2 e2 => h H2 (e.trans e2) _ fun vs H3 e3 hv => by
    show spBL K B Pre Post (.ref b :: (vs ++ [])) H3 Q E
    rw [List.append_nil]
    exact ⟨b, vs, bk, ds, rfl, ba.ex ((e.trans e2).trans e3), p, hv, fun fs p H4 ps hp e4 l => q fs p H4 ps (fresh_back (e2.trans e3) hp) ((e2.trans e3).trans e4) l⟩
theorem ef_meth {m : Str} {Pre : List Kind → List PyData → Prop} {Post : List Kind → List PyData → List PyData → Prop} {E : XK} {tr : TA} (hb : Ev ta σ H (.ref b)) (ba : BookAt K B H b bk) (h : EvDA K tr σ H ds) (p : Pre bk ds) (hm : m ∈ meths := by decide) : EvFP K (tMeth B m (spBL K B Pre Post) [] E ta tr) σ H (Post bk ds) := fun H1 e Q q =>
  hb H1 e _ fun H2 e2 => by
    have ba2 := ba.ex (e.trans e2)
    obtain ⟨dx, lt, wd, ys, h1, _⟩ := ba2.at_
    have hl : ∀ v1 v2 v3, List.lookup m [(("told" : Str), (v1 : V)), ("wide", v2), ("ways", v3)] = none := fun v1 v2 v3 => by
      simp only [meths, List.mem_cons, List.not_mem_nil, or_false] at hm
      rcases hm with rfl | rfl | rfl | rfl <;> rfl
    refine ⟨b, dx, _, rfl, h1, hl _ _ _, h H2 (e.trans e2) _ fun vs H3 e3 hv => ?_⟩
    show spBL K B Pre Post (.ref b :: (vs ++ [])) H3 Q E
    rw [List.append_nil]
    exact ⟨b, vs, bk, ds, rfl, ba2.ex e3, p, hv, fun fs p H4 ps hp e4 l => q fs p H4 ps (fresh_back (e2.trans e3) hp) ((e2.trans e3).trans e4) l⟩
end
end
end Fell

/-! FP3 -/
set_option Elab.async false
set_option linter.all false
set_option maxRecDepth 100000
set_option maxHeartbeats 4000000
/-! The book's methods; where kinds lead. -/
namespace Fell
open PySem PySem.Spec PyProof.Rows L2 Evl
section
variable {P : Program} {w : World} {K : KK} {mg : Str → Option Value} {base : Heap} {aO aS B bI : Addr}
abbrev spLook (K : KK) (B : Addr) : Sp := spB K B (fun bk ds => ∃ n ∈ names bk, ds = [.str n]) (fun _ _ d => d = .none)
theorem met_look_for (T : Txt K mg aO aS B bI) : Met P w K mg base 1 B "look_for" (spLook K B) := by
  have sc : FnScope ["self", "name"] ["self", "name"] (defScope (inClass (top 73) 4)) := ⟨rfl, rfl, rfl, by decide +kernel, rfl, by decide +kernel, by decide +kernel⟩
  refine metD T.cB T.m_look_for sc (spB_len fun bk ds ⟨n, _, e⟩ => by rw [e]; rfl) (fun _ _ _ _ _ _ us hl => match us, hl with | [_, _], _ => rfl) fun f cdv A outer s H vs Q E hr h => ?_
  refine ⟨_, (pss_one (ps_if (pt_cmpR (show OpR _ _ (rIn K true) from op_notIn_seq) (pv 1) (pe_fld (pv 0) rfl) (by with_unfolding_all rfl)) (pss_one ps_never) pss_nil)), ?_⟩
  obtain ⟨b, vs', bk, ds, rfl, ba, ⟨n, hn, rfl⟩, hv, q⟩ := h
  obtain ⟨vn, rfl, h1⟩ := dpa_one hv
  show (_ : TS) _ [some (.ref b), some vn] H
  refine s_when (et_test (ev_niS (x := n) (ed_var rfl h1) (ed_told T.cB T.f_told (ev_var rfl) ba))) (fun hb => ?_) fun hb H1 e1 => q .none .non H1 rfl e1 .non
  rw [decide_eq_true hn] at hb
  cases hb
abbrev spNames (K : KK) (B : Addr) : Sp := spBL K B (fun bk ds => ds = []) (fun bk _ d => d = (names bk).map PyData.str)
theorem met_names (T : Txt K mg aO aS B bI) : Met P w K mg base 1 B "names" (spNames K B) := by
  have sc : FnScope ["self"] ["self"] (defScope (inClass (top 73) 1)) := ⟨rfl, rfl, rfl, by decide +kernel, rfl, by decide +kernel, by decide +kernel⟩
  refine metD T.cB T.m_names sc (spBL_len (n := 0) fun bk ds e => by rw [e]; rfl) (fun _ _ _ _ _ _ us hl => match us, hl with | [_], _ => rfl) fun f cdv A outer s H vs Q E hr h => ?_
  refine ⟨_, (pss_one (ps_ret (pe_callTy (show CallR _ _ (rListS K) from call_list_of) rfl T.n_list b_list (pa_cons (pe_fld (pv 0) rfl) pa_nil)))), ?_⟩
  obtain ⟨b, vs', bk, ds, rfl, ba, rfl, hv, q⟩ := h
  cases hv
  show (_ : TS) _ [some (.ref b)] H
  exact (ek_listL (ed_told T.cB T.f_told (ev_var rfl) ba)) H (Ex.refl _) _ fun p H1 hp e1 hd => q _ p H1 rfl hp e1 hd
abbrev spSpreads (K : KK) (B : Addr) : Sp := spB K B (fun bk ds => ∃ n ∈ names bk, ds = [.str n]) (fun bk ds d => ∀ n, ds = [.str n] → d = .bool (sprOf bk n))
theorem met_spreads (T : Txt K mg aO aS B bI) : Met P w K mg base 2 B "spreads" (spSpreads K B) := by
  have m_look_for := met_look_for (P := P) (w := w) (base := base) T
  have sc : FnScope ["self", "name"] ["self", "name"] (defScope (inClass (top 73) 2)) := ⟨rfl, rfl, rfl, by decide +kernel, rfl, by decide +kernel, by decide +kernel⟩
  refine metD T.cB T.m_spreads sc (spB_len fun bk ds ⟨n, _, e⟩ => by rw [e]; rfl) (fun _ _ _ _ _ _ us hl => match us, hl with | [_, _], _ => rfl) fun f cdv A outer s H vs Q E hr h => ?_
  refine ⟨_, (pss_cons (ps_expr (pe_mt m_look_for hr (by omega) (pv 0) (pa_cons (pv 1) pa_nil)))
    (pss_one (ps_ret (pe_dget (hu_of hr) (pe_fld (pv 0) rfl) (pv 1) (fun _ _ => rfl))))), ?_⟩
  obtain ⟨b, vs', bk, ds, rfl, ba, ⟨n, hn, rfl⟩, hv, q⟩ := h
  obtain ⟨vn, rfl, h1⟩ := dpa_one hv
  show (_ : TS) _ [some (.ref b), some vn] H
  refine q_dropD (K := K) (d := .none) ((ep_meth (ev_var rfl) ba (eda_1 (ed_var rfl h1)) ⟨n, hn, rfl⟩).toD fun d e => e) fun H1 e1 => ?_
  obtain ⟨l, hl, hd⟩ := fld_wide (ta := tVar 0) (σ := [some (.ref b), some vn]) T.cB T.f_wide (ev_var rfl) (ba.ex e1)
  refine s_retP (kv_get (x := n) hl (ed_var rfl (dp_ex e1 h1)) hd hn) fun d v H2 ed e2 hv => q d v H2 (fun m em => ?_) (e1.trans e2) hv
  cases em
  exact ed
abbrev spRules (K : KK) (B : Addr) : Sp := spBL K B (fun bk ds => ∃ n ∈ names bk, ds = [.str n]) (fun bk ds d => ∀ n, ds = [.str n] → d = (rulesOf bk n).map ruleD)
theorem met_rules (T : Txt K mg aO aS B bI) : Met P w K mg base 2 B "rules" (spRules K B) := by
  have m_look_for := met_look_for (P := P) (w := w) (base := base) T
  have sc : FnScope ["self", "name"] ["self", "name"] (defScope (inClass (top 73) 3)) := ⟨rfl, rfl, rfl, by decide +kernel, rfl, by decide +kernel, by decide +kernel⟩
  refine metD T.cB T.m_rules sc (spBL_len fun bk ds ⟨n, _, e⟩ => by rw [e]; rfl) (fun _ _ _ _ _ _ us hl => match us, hl with | [_, _], _ => rfl) fun f cdv A outer s H vs Q E hr h => ?_
  refine ⟨_, (pss_cons (ps_expr (pe_mt m_look_for hr (by omega) (pv 0) (pa_cons (pv 1) pa_nil)))
    (pss_one (ps_ret (pe_callTy (show CallR _ _ (rListS K) from call_list_of) rfl T.n_list b_list (pa_cons (pe_dget (hu_of hr) (pe_fld (pv 0) rfl) (pv 1) (fun _ _ => rfl)) pa_nil))))), ?_⟩
  obtain ⟨b, vs', bk, ds, rfl, ba, ⟨n, hn, rfl⟩, hv, q⟩ := h
  obtain ⟨vn, rfl, h1⟩ := dpa_one hv
  show (_ : TS) _ [some (.ref b), some vn] H
  refine q_dropD (K := K) (d := .none) ((ep_meth (ev_var rfl) ba (eda_1 (ed_var rfl h1)) ⟨n, hn, rfl⟩).toD fun d e => e) fun H1 e1 => ?_
  obtain ⟨l, hl, hd⟩ := fld_ways (ta := tVar 0) (σ := [some (.ref b), some vn]) T.cB T.f_ways (ev_var rfl) (ba.ex e1)
  refine (ek_listL ((kv_get (x := n) hl (ed_var rfl (dp_ex e1 h1)) hd hn).toD fun d e => e)) H1 (Ex.refl _) _ fun p H2 hp e2 hv => q _ p H2 (fun m em => ?_) (fresh_back e1 hp) (e1.trans e2) hv
  cases em
  rfl
theorem ef_names {σ : L2.St} {H : Hp} {ta : TE} {b : Addr} {bk : List Kind} (hb : Ev ta σ H (.ref b)) (ba : BookAt K B H b bk) : EvF K (tMeth B "names" (spNames K B) [] E0 ta tNil) σ H ((names bk).map PyData.str) :=
  (ef_meth hb ba eda_nil rfl).f fun d e => e
theorem ef_rules {σ : L2.St} {H : Hp} {ta tb : TE} {b : Addr} {bk : List Kind} {n : Str} (hb : Ev ta σ H (.ref b)) (ba : BookAt K B H b bk) (hn : EvD K tb σ H (.str n)) (h : n ∈ names bk) : EvF K (tMeth B "rules" (spRules K B) [] E0 ta (tCons tb tNil)) σ H ((rulesOf bk n).map ruleD) :=
  (ef_meth hb ba (eda_1 hn) ⟨n, h, rfl⟩).f fun d e => e n rfl
theorem ed_spreads {σ : L2.St} {H : Hp} {ta tb : TE} {b : Addr} {bk : List Kind} {n : Str} (hb : Ev ta σ H (.ref b)) (ba : BookAt K B H b bk) (hn : EvD K tb σ H (.str n)) (h : n ∈ names bk) : EvD K (tMeth B "spreads" (spSpreads K B) [] E0 ta (tCons tb tNil)) σ H (.bool (sprOf bk n)) :=
  (ep_meth hb ba (eda_1 hn) ⟨n, h, rfl⟩).toD fun d e => e n rfl

/-! ### spots -/
def spotsL : Grv → List Int → Nat → List (List Int × Str)
  | .nil, _, _ => []
  | .cons k g m r, pl, i => (pl ++ [(i : Int)], k) :: (spotsL g (pl ++ [(i : Int)]) 0 ++ spotsL r pl (i + 1))
def spotD (p : List Int × Str) : PyData := .tuple [.tuple (p.1.map PyData.int), .str p.2]
theorem spots_snd : ∀ (g : Grv) (pl : List Int) (i : Nat), (spotsL g pl i).map (·.2) = g.stands
  | .nil, _, _ => rfl
  | .cons k g m r, pl, i => by
    simp only [spotsL, List.map_cons, List.map_append, spots_snd g, spots_snd r, Grv.stands]
theorem nol_ints (l : List Int) : noLs (l.map PyData.int) = true := noLs_map fun _ => rfl
theorem nol_spot (p : List Int × Str) : noL (spotD p) = true := by simp only [spotD, noL, noLs, nol_ints, Bool.and_self]
def Grv.drop : Nat → Grv → Grv
  | 0, a => a
  | _ + 1, .nil => .nil
  | n + 1, .cons _ _ _ r => Grv.drop n r
theorem gdrop_get : ∀ {a : Grv} {i : Nat} {p : Grv.Tree × Int}, a.toL[i]? = some p → a.drop i = .cons p.1.1 p.1.2 p.2 (a.drop (i + 1))
  | .nil, i, p, h => by simp [Grv.toL] at h
  | .cons k g m r, 0, p, h => by
    have h' : ((k, g), m) = p := by simpa [Grv.toL] using h
    subst h'
    cases r <;> rfl
  | .cons k g m r, i + 1, p, h => by
    have h' : r.toL[i]? = some p := by simpa [Grv.toL] using h
    show r.drop i = .cons p.1.1 p.1.2 p.2 (r.drop (i + 1))
    exact gdrop_get h'
theorem gdrop_end : ∀ {a : Grv} {i : Nat}, a.len ≤ i → a.drop i = .nil
  | .nil, 0, _ => rfl
  | .nil, _ + 1, _ => rfl
  | .cons k g m r, 0, h => by simp [Grv.len] at h
  | .cons k g m r, i + 1, h => by
    show r.drop i = .nil
    exact gdrop_end (by simp [Grv.len] at h; omega)
theorem gdrop0 (a : Grv) : a.drop 0 = a := by cases a <;> rfl
theorem gds_get {a : Grv} {i : Nat} {d : PyData} (h : a.ds[i]? = some d) : ∃ p, a.toL[i]? = some p ∧ d = Grv.prD p := by
  rw [Grv.ds_toL, List.getElem?_map] at h
  cases e : a.toL[i]? with
  | none => rw [e] at h; cases h
  | some p => rw [e] at h; exact ⟨p, rfl, (Option.some.inj h).symm⟩
theorem gmem {a : Grv} {i : Nat} {p : Grv.Tree × Int} (h : a.toL[i]? = some p) : p ∈ a.toL := List.mem_of_getElem? h
def RSpots (n : Nat) (ds : List PyData) (fs : List PyData) : Prop := ∃ (g : Grv) (pl : List Int), g.dep < n ∧ g.parts ≤ 100 ∧ pl.length + g.dep ≤ 100 ∧ ds = [g.d, .tuple (pl.map PyData.int)] ∧ fs = (spotsL g pl 0).map spotD
theorem spots_len (g : Grv) (pl : List Int) (i : Nat) : (spotsL g pl i).length = g.parts := by
  rw [← List.length_map (f := (·.2)), spots_snd, Grv.stands_length]
theorem c_spots (T : Txt K mg aO aS B bI) : ∀ n, Cal P w K mg base n "spots" (spL K (RSpots n))
  | 0 => calN (ps := ["grove", "place"]) T.a_spots (fun vs H Q E ⟨_, _, ⟨_, _, h, _⟩, _⟩ => absurd h (Nat.not_lt_zero _)) (fun _ _ _ _ _ _ us hl => match us, hl with | [_, _], _ => rfl)
  | n + 1 => by
    have c_spots := c_spots T n
    have sc : FnScope ["grove", "place", "found", "at", "tree", "many", "here"] ["grove", "place"] (defScope (top 22)) := ⟨rfl, rfl, rfl, by decide +kernel, rfl, by decide +kernel, by decide +kernel⟩
    refine calD T.a_spots sc (spL_len fun ds d ⟨_, _, _, _, _, e, _⟩ => by rw [e]; rfl) (fun _ _ _ _ _ _ us hl => match us, hl with | [_, _], _ => rfl) fun f cdv A outer s H vs Q E hr h => ?_
    refine ⟨_, (pss_cons (ps_set (i := 2) sc.nd rfl (Or.inl rfl) (pe_lst pa_nil))
    (pss_cons (ps_for PassesOwn.never rfl (pi_enumT rfl T.n_enumerate (pa_cons (pv 0) pa_nil)) (show PG _ _ (gTup K 2 _) from (pg_tup rfl (pgs_cons (pg_name (i := 3) sc.nd rfl (Or.inl rfl)) (pgs_cons (show PG _ _ (gTup K 2 _) from (pg_tup rfl (pgs_cons (pg_name (i := 4) sc.nd rfl (Or.inl rfl)) (pgs_cons (pg_name (i := 5) sc.nd rfl (Or.inl rfl)) pgs_nil)))) pgs_nil))))
      (pss_cons (ps_set (i := 6) sc.nd rfl (Or.inl rfl) (pe_op op_catA (pv 1) (pe_tup (pa_cons (pv 3) pa_nil))))
      (pss_cons (ps_expr (show PE _ _ (tBM K _ _ _ _) from (pe_bm PySem.F.plainAttrs_list PySem.F.slot_list_append PySem.F.type_list_append mt_append (pv 2) (pa_cons (pe_tup (pa_cons (pv 6) (pa_cons (pe_ix (show IxR _ (rIxT K) from ix_tup) (pv 4) pe_int (fun _ _ => rfl)) pa_nil))) pa_nil))))
      (pss_one (ps_expr (show PE _ _ (tBM K _ _ _ _) from (pe_bm PySem.F.plainAttrs_list PySem.F.slot_list_extend PySem.F.type_list_extend mt_extend (pv 2) (pa_cons (pe_c c_spots hr (by omega) rfl (pa_cons (pe_ix (show IxR _ (rIxT K) from ix_tup) (pv 4) pe_int (fun _ _ => rfl)) (pa_cons (pv 6) pa_nil))) pa_nil))))))))
    (pss_one (ps_ret (pv 2))))), ?_⟩
    obtain ⟨ds, fs, ⟨g, pl, hd, hp, hpl, rfl, rfl⟩, hv, q⟩ := h
    obtain ⟨vg, vp, rfl, h1, h2⟩ := dpa_two hv
    show (_ : TS) _ [some vg, some vp, none, none, none, none, none] H
    refine q_newL (K := K) fun L HL hL eL lL => ?_
    show (_ : TS) _ [some vg, some vp, some (.ref L), none, none, none, none] HL
    have hgl := g.len_le_parts
    refine s_forETx (D := { nx := _, rt := _, bk := _, ct := _ }) (ds := g.ds) (eda_1 (ed_var rfl (dp_ex eL h1))) (nol_grvs g) (fun H1 i σ' H' => Tx H1 H' ∧ Ex H H' ∧ ∃ done x y z u, σ' = [some vg, some vp, some (.ref L), x, y, z, u] ∧ LstAt K H' L (done.map spotD) ∧ spotsL g pl 0 = done ++ spotsL (g.drop i) pl i)
      (fun H1 e1 => ⟨.refl _, eL.trans e1, [], none, none, none, none, rfl, lL.ex e1, by rw [gdrop0]; rfl⟩) (fun H1 i σ' H' p => p.1) ?_ ?_
    · rintro H1 e1 i d x σ' H0 H' hdd hx ⟨t1, eH, done, x0, y0, z0, u0, rfl, lt, hs⟩ e2
      obtain ⟨⟨⟨k, g'⟩, m⟩, hp', rfl⟩ := gds_get hdd
      obtain ⟨m1, m2, _, _⟩ := Grv.mem_facts (gmem hp')
      rw [gdrop_get hp'] at hs
      have hdl : done.length ≤ 100 := by
        have := congrArg List.length hs
        rw [spots_len, List.length_append] at this
        omega
      refine g_nest (e := Grv.trD (k, g')) (e' := .int m) hx fun w1 w3 w4 f1 f3 f4 => ?_
      show (_ : TS) _ [some vg, some vp, some (.ref L), some w1, some w3, some w4, u0] H'
      have gp := dp_ex (eH.trans e2) h2
      refine q_asgD (d := .tuple ((pl ++ [(i : Int)]).map PyData.int)) (by rw [List.map_append]; exact ed_catT (ed_var rfl gp) (ed_tup (eda_1 (ed_var rfl f1)) sz1) (by rw [List.length_map]; show pl.length + 1 ≤ 100000; omega)) fun wh H2 e3 fh => ?_
      show (_ : TS) _ [some vg, some vp, some (.ref L), some w1, some w3, some w4, some wh] H2
      refine q_appD (d := spotD (pl ++ [(i : Int)], k)) ((lt.ex e2).ex e3) (noLs_map nol_spot) (nol_spot _) (fun _ _ => ev_var rfl) (ed_tup (eda_2 (ed_var rfl fh) (ed_at (i := 0) (ed_var rfl (dp_ex e3 f3)) rfl)) sz2) (by rw [List.length_map]; omega) fun H3 m3 l3 => ?_
      have t3 := ((lt.ex e2).ex e3).tx m3
      have e3H : Ex H H3 := m3.base hL ((eH.trans e2).trans e3)
      have l3' : LstAt K H3 L ((done ++ [(pl ++ [(i : Int)], k)]).map spotD) := by rw [List.map_append]; exact l3
      have nh : noL (.tuple ((pl ++ [(i : Int)]).map PyData.int)) = true := by rw [noL]; exact nol_ints _
      refine s_extK (es := (spotsL g' (pl ++ [(i : Int)]) 0).map spotD) l3' (noLs_map nol_spot) (noLs_map nol_spot) (fun _ _ => ev_var rfl) (EvF.k <| ek_call (eda_2 (ed_at (i := 1) (ed_var rfl (dp_tx t3 (nol_tr _) (dp_ex e3 f3))) rfl) (ed_var rfl (dp_tx t3 nh fh))) ⟨g', pl ++ [(i : Int)], by simp only at m2; omega, by simp only at m1; omega, by rw [List.length_append]; simp only [List.length_singleton]; simp only at m2; omega, rfl, rfl⟩)
        (by rw [List.length_map, List.length_map, spots_len, List.length_append]; simp only [List.length_singleton]; simp only at m1; omega) fun H4 m4 l4 => ?_
      refine ⟨(((t1.trans (tx_ex e2)).trans (tx_ex e3)).trans t3).trans (l3'.tx m4), m4.base hL e3H, (done ++ [(pl ++ [(i : Int)], k)]) ++ spotsL g' (pl ++ [(i : Int)]) 0, some w1, some w3, some w4, some wh, rfl, by rw [List.map_append]; exact l4, ?_⟩
      rw [hs, spotsL]
      simp
    · rintro H1 e1 σ' H' ⟨t1, eH, done, x0, y0, z0, u0, rfl, lt, hs⟩
      rw [Grv.ds_length, gdrop_end (Nat.le_refl _), spotsL, List.append_nil] at hs
      rw [hs] at q
      exact ⟨.ref L, rfl, q L H' hL eH lt⟩
end
end Fell

/-! FP4 -/
set_option Elab.async false
set_option linter.all false
set_option maxRecDepth 100000
set_option maxHeartbeats 4000000
/-! Where kinds lead; the endless kinds. -/
namespace Fell
open PySem PySem.Spec PyProof.Rows L2 Evl
theorem putK_len1 (c : List (Key × V)) (k : Key) (x : V) : (putK c k x).length ≤ c.length + 1 := by
  unfold putK
  split
  · rw [List.length_map]; omega
  · rw [List.length_append]; exact Nat.le_refl _
/-! ### a dict may change, lists and tuples stand -/
def Qx (H H' : Hp) : Prop := (∀ a xs, Rd H a (.lst xs) → Rd H' a (.lst xs)) ∧ Tx H H'
theorem Mut.qxd {L : Addr} {H H' : Hp} {xs : List (Key × V)} (m : Mut L H H') (hl : H L = some (.dK xs)) : Qx H H' := ⟨fun a ys q => by
  rcases q with q | ⟨ob, q⟩
  · exact .inl (m a _ (fun e => by rw [e, hl] at q; cases q) q)
  · exact .inr ⟨ob, m a _ (fun e => by rw [e, hl] at q; cases q) q⟩, m.txd hl⟩
mutual
theorem dp_qx {K : KK} {H H' : Hp} (e : Qx H H') : ∀ {d : PyData} {v : V}, Dp K H v d → Dp K H' v d
  | .none, _, h => by cases h; exact .non
  | .bool b, _, h => by cases h; exact .bl b
  | .int i, _, h => by cases h; exact .int i
  | .str x, _, h => by cases h; exact .str x
  | .list ds, _, h => by
    cases h with
    | lst s a => exact .lst (s.imp (e.1 _ _) id) (dpa_qx e a)
  | .tuple ds, _, h => by
    cases h with
    | tup s a => exact .tup (tx_t e.2 s) (dpa_qx e a)
  | .dict _, _, h => by cases h
theorem dpa_qx {K : KK} {H H' : Hp} (e : Qx H H') : ∀ {ds : List PyData} {vs : List V}, DpAll K H vs ds → DpAll K H' vs ds
  | [], _, h => by cases h; exact .nil
  | d :: ds, _, h => by
    cases h with
    | cons h t => exact .cons (dp_qx e h) (dpa_qx e t)
end
section
variable {K : KK} {σ : L2.St} {H H' : Hp} {ta td ty te : TE} {D : Ends} {tz : TS}
/-- d[k] = e -/
theorem s_dputD {l : Addr} {n : Nat} {S : Str → Prop} {f : Str → PyData → Prop} {x : Str} {Pst : PyData → Prop} (hd : DictAt K H l n S f) (h : EvP K te σ H Pst) (hl : ∀ H1, Ex H H1 → Ev td σ H1 (.ref l)) (hk : ∀ H1, Ex H H1 → EvD K ty σ H1 (.str x)) (hp : ∀ d, Pst d → f x d) (hn : n < 1000)
    (k : ∀ H2, Mut l H H2 → DictAt K H2 l (n + 1) (fun y => S y ∨ y = x) f → D.nx σ H2) : sDPut td ty te D σ H := h H (Ex.refl H) _ fun d v H1 ps e1 hv => hl H1 e1 H1 (Ex.refl _) _ fun H2 e2 => hk H2 (e1.trans e2) H2 (Ex.refl _) _ fun w H3 e3 hw => by
  obtain ⟨kvs, h1, h2, h3⟩ := hd.ex ((e1.trans e2).trans e3)
  have hx := dp_str hw
  subst hx
  have m : Mut l H3 (upd H3 l (.dK (putK kvs (Sum.inr x) v))) := .upd
  have q := m.qxd h1
  refine ⟨l, _, rfl, DPut.k (k := Sum.inr x) h1 (sz_lt (by omega)), k _ (.exl ((e1.trans e2).trans e3) m) ⟨_, upd_same, ?_, fun y hy => ?_⟩⟩
  · have := putK_len1 kvs (Sum.inr x) v
    omega
  · rw [valV_put]
    by_cases e : y = x
    · subst e
      rw [if_pos rfl]
      exact ⟨v, d, rfl, dp_qx q (dp_ex (e2.trans e3) hv), hp d ps⟩
    · rw [if_neg (fun h => e (Sum.inr.inj h))]
      obtain ⟨u, d', a, b, c⟩ := h3 y (hy.resolve_right e)
      exact ⟨u, d', a, dp_qx q b, c⟩
/-- sorted of texts -/
theorem ep_sortedS {xs : List Str} (h : EvD K ta σ H (.list (xs.map PyData.str))) (hl : xs.length < 64) : EvP K (tCB (rSortedS K) (tCons ta tNil)) σ H (fun d => ∃ ys : List Str, ys.Perm xs ∧ sortedS ys = true ∧ d = .list (ys.map PyData.str)) := fun H1 e Q q => h H1 e _ fun v H2 e2 hv => by
  obtain ⟨a, rfl, hs⟩ := dp_str_list hv
  exact ⟨a, xs, rfl, hs, hl, fun ys p hp hy hn => q _ _ _ ⟨ys, hp, hy, rfl⟩ (e2.trans (Ex.new hn)) (.lst (sq_of upd_same) (dpa_strs _))⟩
theorem ep_sortedX {P : Program} {w : World} {xs : List Str} (h : EvD K ta σ H (.list (xs.map PyData.str))) (hl : xs.length < 64) : EvP K (tCB (rSortX P w) (tCons (tCB (rSetX K P w) (tCons ta tNil)) tNil)) σ H (fun d => ∃ ys : List Str, (∀ k, k ∈ ys ↔ k ∈ xs) ∧ ys.length ≤ xs.length ∧ d = .list (ys.map PyData.str)) := fun H1 e Q q => h H1 e _ fun v H2 e2 hv => by
  obtain ⟨a, rfl, hs⟩ := dp_str_list hv
  refine ⟨a, xs, rfl, hs, by omega, fun p hp => ⟨p, _, _, rfl, upd_same, hl, fun ys r _ hk hn hr => ?_⟩⟩
  refine q _ _ _ ⟨ys, fun k => (hk k).trans ?_, hn, rfl⟩ ((e2.trans (Ex.new hp)).trans (Ex.new hr)) (.lst (sq_of upd_same) (dpa_strs _))
  simp
end
section
variable {P : Program} {w : World} {K : KK} {mg : Str → Option Value} {base : Heap} {aO aS B bI : Addr}
def stD (p : PyData × Str) : PyData := .tuple [p.1, .str p.2]
theorem nol_st {l : List (PyData × Str)} (h : ∀ p ∈ l, noL p.1 = true) : noLs (l.map stD) = true := noLs_all fun d hd => by
  obtain ⟨p, hp, rfl⟩ := List.mem_map.mp hd
  simp only [stD, noL, noLs, h p hp, Bool.and_self]
/-- steps lie in the list at L; they lead to W -/
def StW (K : KK) (L : Addr) (W : List Str) (H' : Hp) : Prop := ∃ done : List (PyData × Str), LstAt K H' L (done.map stD) ∧ (∀ p ∈ done, noL p.1 = true) ∧ done.map (·.2) = W
theorem StW.ex {L : Addr} {W : List Str} {H H' : Hp} (h : StW K L W H) (e : Ex H H') : StW K L W H' := let ⟨a, b, c⟩ := h; ⟨a, b.ex e, c⟩
theorem StW.tx {L : Addr} {W : List Str} {H H' : Hp} (h : StW K L W H) (m : Mut L H H') : Tx H H' := let ⟨_, b, _⟩ := h; b.tx m
theorem StW.keep {L p : Addr} {W : List Str} {H H1 H' : Hp} {fs : List PyData} (h : StW K L W H) (m : Mut L H1 H') (hp : H p = none) (l : LstAt K H1 p fs) : H' p = H1 p := let ⟨_, ⟨_, b, _⟩, _⟩ := h; keep_of m hp b l
def PostSteps (bk : List Kind) (ds : List PyData) (fs : List PyData) : Prop := ∀ n, ds = [.str n] → ∃ l : List (PyData × Str), (∀ p ∈ l, noL p.1 = true) ∧ fs = l.map stD ∧ l.map (·.2) = succ bk n
abbrev PreN (bk : List Kind) (ds : List PyData) : Prop := ∃ n ∈ names bk, ds = [.str n]
theorem succ_len {bk : List Kind} (ok : BookOk bk) (n : Str) : (succ bk n).length ≤ 6 := by
  have h1 := ok.rulesLen n
  have h2 : ∀ r ∈ rulesOf bk n, (standsR r).length ≤ 2 := fun r hr => standsR_len (ok.rule hr)
  unfold succ standsK
  revert h1 h2
  generalize rulesOf bk n = rs
  intro h1 h2
  have : ∀ l : List Rule, (∀ r ∈ l, (standsR r).length ≤ 2) → (l.flatMap standsR).length ≤ 2 * l.length := fun l => by
    induction l with
    | nil => intro _; simp
    | cons a l ih =>
      intro h
      have := ih fun r hr => h r (List.mem_cons_of_mem _ hr)
      have := h a List.mem_cons_self
      rw [List.flatMap_cons, List.length_append, List.length_cons]
      omega
  have := this rs h2
  omega
theorem map_get {α : Type} {f : α → PyData} {l : List α} {i : Nat} {d : PyData} (h : (l.map f)[i]? = some d) : ∃ a, l[i]? = some a ∧ d = f a := by
  rw [List.getElem?_map] at h
  cases e : l[i]? with
  | none => rw [e] at h; cases h
  | some a => rw [e] at h; exact ⟨a, rfl, (Option.some.inj h).symm⟩
theorem take_snoc {α : Type} {l : List α} {i : Nat} {a : α} (h : l[i]? = some a) : l.take (i + 1) = l.take i ++ [a] := by rw [List.take_add_one, h]; rfl
theorem prefix_len {bk : List Kind} (ok : BookOk bk) {n : Str} {i : Nat} {r : Rule} (h : (rulesOf bk n)[i]? = some r) : (standsK ((rulesOf bk n).take i)).length + (standsR r).length ≤ 6 := by
  have h1 := succ_len ok n
  have e : (rulesOf bk n) = (rulesOf bk n).take i ++ (r :: (rulesOf bk n).drop (i + 1)) := by
    have := List.take_append_drop i (rulesOf bk n)
    rw [List.drop_eq_getElem?_toList_append, h] at this
    exact this.symm
  have e2 : succ bk n = standsK ((rulesOf bk n).take i) ++ (standsR r ++ standsK ((rulesOf bk n).drop (i + 1))) := by
    unfold succ
    conv => lhs; rw [e]
    unfold standsK
    rw [List.flatMap_append, List.flatMap_cons]
  rw [e2, List.length_append, List.length_append] at h1
  omega
theorem c_steps_of (T : Txt K mg aO aS B bI) : Cal P w K mg base 5 "steps_of" (spBL K B PreN PostSteps) := by
  have m_rules := met_rules (P := P) (w := w) (base := base) T
  have c_spots := c_spots (P := P) (w := w) (base := base) T 4
  have sc : FnScope ["book", "name", "found", "at", "rule", "word", "grove", "place", "kind"] ["book", "name"] (defScope (top 23)) := ⟨rfl, rfl, rfl, by decide +kernel, rfl, by decide +kernel, by decide +kernel⟩
  refine calD T.a_steps_of sc (spBL_len fun bk ds ⟨n, _, e⟩ => by rw [e]; rfl) (fun _ _ _ _ _ _ us hl => match us, hl with | [_, _], _ => rfl) fun f cdv A outer s H vs Q E hr h => ?_
  refine ⟨_, (pss_cons (ps_set (i := 2) sc.nd rfl (Or.inl rfl) (pe_lst pa_nil))
    (pss_cons (ps_for PassesOwn.never rfl (pi_enum rfl T.n_enumerate (pa_cons (pe_mt m_rules hr (by omega) (pv 0) (pa_cons (pv 1) pa_nil)) pa_nil)) (show PG _ _ (gTup K 2 _) from (pg_tup rfl (pgs_cons (pg_name (i := 3) sc.nd rfl (Or.inl rfl)) (pgs_cons (pg_name (i := 4) sc.nd rfl (Or.inl rfl)) pgs_nil))))
      (pss_one (ps_for PassesOwn.never rfl (show PI _ _ _ (iList K _) from (pi_list (pe_lst (pa_cons (pe_tup (pa_cons pe_str (pa_cons (pe_ix (show IxR _ (rIxT K) from ix_tup) (pv 4) pe_int (fun _ _ => rfl)) pa_nil))) (pa_cons (pe_tup (pa_cons pe_str (pa_cons (pe_ix (show IxR _ (rIxT K) from ix_tup) (pv 4) pe_int (fun _ _ => rfl)) pa_nil))) pa_nil))))) (show PG _ _ (gTup K 2 _) from (pg_tup rfl (pgs_cons (pg_name (i := 5) sc.nd rfl (Or.inl rfl)) (pgs_cons (pg_name (i := 6) sc.nd rfl (Or.inl rfl)) pgs_nil))))
        (pss_one (ps_for PassesOwn.never rfl (show PI _ _ _ (iList K _) from (pi_list (pe_c c_spots hr (by omega) rfl (pa_cons (pv 6) (pa_cons (pe_tup pa_nil) pa_nil))))) (show PG _ _ (gTup K 2 _) from (pg_tup rfl (pgs_cons (pg_name (i := 7) sc.nd rfl (Or.inl rfl)) (pgs_cons (pg_name (i := 8) sc.nd rfl (Or.inl rfl)) pgs_nil))))
          (pss_one (ps_expr (show PE _ _ (tBM K _ _ _ _) from (pe_bm PySem.F.plainAttrs_list PySem.F.slot_list_append PySem.F.type_list_append mt_append (pv 2) (pa_cons (pe_tup (pa_cons (pe_tup (pa_cons (pv 1) (pa_cons (pe_op op_add (pv 3) pe_int) (pa_cons (pv 5) (pa_cons (pv 7) pa_nil))))) (pa_cons (pv 8) pa_nil))) pa_nil))))))))))
    (pss_one (ps_ret (pv 2))))), ?_⟩
  obtain ⟨b, vs', bk, ds, rfl, ba, ⟨n, hn, rfl⟩, hv, q⟩ := h
  obtain ⟨vn, rfl, h1⟩ := dpa_one hv
  have hsv := dp_str h1
  subst hsv
  show (_ : TS) _ [some (.ref b), some (.str n), none, none, none, none, none, none, none] H
  have ok := ba.ok
  refine q_newL (K := K) fun L HL hL eL lL => ?_
  show (_ : TS) _ [some (.ref b), some (.str n), some (.ref L), none, none, none, none, none, none] HL
  have sL : StW K L [] HL := ⟨[], lL, (fun p hp => nomatch hp), rfl⟩
  refine s_forEF (D := { nx := _, rt := _, bk := _, ct := _ }) (ef_rules (ev_var rfl) (ba.ex eL) (ed_var rfl (.str n)) hn) (noLs_map nol_rule) (fun p H1 i σ' H' => Mut L H1 H' ∧ (∃ x y z u s t, σ' = [some (.ref b), some (.str n), some (.ref L), x, y, z, u, s, t]) ∧ StW K L (standsK ((rulesOf bk n).take i)) H')
    (fun p H1 hp e1 l => ⟨.of_ex (Ex.refl _), ⟨_, _, _, _, _, _, rfl⟩, sL.ex e1⟩) (fun p H1 hp e1 l i σ' H' pv => ⟨sL.keep pv.1 hp l, (sL.ex e1).tx pv.1⟩) ?_ ?_
  · rintro p H1 hp e1 l i d x σ' H0 H' hd hx ⟨m0, ⟨x0, y0, z0, u0, s0, t0, rfl⟩, sw⟩ e2
    obtain ⟨r, hri, rfl⟩ := map_get hd
    have hlen := prefix_len ok hri
    have hR := ok.rule (List.mem_of_getElem? hri)
    have fewR := hR.few
    refine g_two hx fun w1 w2 f1 f2 => ?_
    have hw1 := dp_int f1
    subst hw1
    show (_ : TS) _ [some (.ref b), some (.str n), some (.ref L), some (.int (i : Nat)), some w2, z0, u0, s0, t0] H'
    have sw' := sw.ex e2
    have two : ∀ g : Grv, g = r.1 ∨ g = r.2 → g.dep < 4 ∧ g.parts ≤ 100 ∧ g.dep ≤ 100 := fun g hg => by
      have d1 := g.dep_le_parts
      rcases hg with rfl | rfl <;> (refine ⟨?_, ?_, ?_⟩ <;> omega)
    let gs : List (Str × Grv) := [("once", r.1), ("each", r.2)]
    let gD : Str × Grv → PyData := fun p => .tuple [.str p.1, p.2.d]
    refine s_forLF (fs := gs.map gD) (ek_lst (eda_2 (ed_tup (eda_2 (d := .str "once") (d' := r.1.d) (ed_str ev_c) (ed_at (i := 0) (ed_var rfl f2) rfl)) sz2) (ed_tup (eda_2 (d := .str "each") (d' := r.2.d) (ed_str ev_c) (ed_at (i := 1) (ed_var rfl f2) rfl)) sz2)) sz2) (noLs_map fun p => by simp only [gD, noL, noLs, nol_grv, Bool.and_self])
      (fun p2 H2 j σ2 H3 => Mut L H2 H3 ∧ Mut L H1 H3 ∧ (∃ z u s t, σ2 = [some (.ref b), some (.str n), some (.ref L), some (.int (i : Nat)), some w2, z, u, s, t]) ∧ StW K L (standsK ((rulesOf bk n).take i) ++ (gs.take j).flatMap fun p => p.2.stands) H3)
      (fun p2 H2 hp2 e3 l2 => ⟨.of_ex (Ex.refl _), (m0.exr e2).exr e3, ⟨_, _, _, _, rfl⟩, by rw [List.take_zero, List.flatMap_nil, List.append_nil]; exact sw'.ex e3⟩) (fun p2 H2 hp2 e3 l2 j σ2 H3 pv => ⟨sw'.keep pv.1 hp2 l2, (sw'.ex e3).tx pv.1⟩) ?_ ?_
    · rintro p2 H2 hp2 e3 l2 j d2 x2 σ2 H3 hd2 hx2 ⟨m2, m1, ⟨z1, u1, s1, t1, rfl⟩, sw2⟩
      obtain ⟨⟨wd, g⟩, hgj, rfl⟩ := map_get hd2
      have hg : g = r.1 ∨ g = r.2 := by
        have := List.mem_of_getElem? hgj
        simp only [gs, List.mem_cons, List.not_mem_nil, or_false, Prod.mk.injEq] at this
        rcases this with ⟨_, h⟩ | ⟨_, h⟩
        · exact .inl h
        · exact .inr h
      obtain ⟨g1, g2, g3⟩ := two g hg
      have tgs : (((gs.take j).flatMap fun p => p.2.stands) ++ g.stands).length ≤ (standsR r).length := by
        match j, hgj with
        | 0, h =>
          have e : g = r.1 := (Prod.mk.inj (Option.some.inj h)).2.symm
          rw [e]; simp [standsR]
        | 1, h =>
          have e : g = r.2 := (Prod.mk.inj (Option.some.inj h)).2.symm
          rw [e]; simp [standsR, gs]
        | j + 2, h => simp [gs] at h
      rw [List.length_append] at tgs
      refine g_two hx2 fun w3 w4 f3 f4 => ?_
      have hw3 := dp_str f3
      subst hw3
      show (_ : TS) _ [some (.ref b), some (.str n), some (.ref L), some (.int (i : Nat)), some w2, some (.str wd), some w4, s1, t1] H3
      refine s_forLF (fs := (spotsL g [] 0).map spotD) (ek_call (eda_2 (ed_var rfl f4) ed_nilT) ⟨g, [], g1, g2, by rw [List.length_nil]; omega, rfl, rfl⟩) (noLs_map nol_spot)
        (fun p3 H4 m σ4 H5 => Mut L H4 H5 ∧ Mut L H2 H5 ∧ Mut L H1 H5 ∧ (∃ s t, σ4 = [some (.ref b), some (.str n), some (.ref L), some (.int (i : Nat)), some w2, some (.str wd), some w4, s, t]) ∧ StW K L ((standsK ((rulesOf bk n).take i) ++ (gs.take j).flatMap fun p => p.2.stands) ++ ((spotsL g [] 0).take m).map (·.2)) H5)
        (fun p3 H4 hp3 e4 l3 => ⟨.of_ex (Ex.refl _), m2.exr e4, m1.exr e4, ⟨_, _, rfl⟩, by rw [List.take_zero, List.map_nil, List.append_nil]; exact sw2.ex e4⟩) (fun p3 H4 hp3 e4 l3 m σ4 H5 pv => ⟨sw2.keep pv.1 hp3 l3, (sw2.ex e4).tx pv.1⟩) ?_ ?_
      · rintro p3 H4 hp3 e4 l3 m d3 x3 σ4 H5 hd3 hx3 ⟨m5, m6, m7, ⟨s2, t2, rfl⟩, done, ld, nd, wd'⟩
        obtain ⟨⟨pl, kd⟩, hpm, rfl⟩ := map_get hd3
        refine g_two hx3 fun w5 w6 f5 f6 => ?_
        have hw6 := dp_str f6
        subst hw6
        show (_ : TS) _ [some (.ref b), some (.str n), some (.ref L), some (.int (i : Nat)), some w2, some (.str wd), some w4, some w5, some (.str kd)] H5
        have npl : noL (.tuple (pl.map PyData.int)) = true := by rw [noL]; exact nol_ints _
        have hdl : done.length ≤ 6 := by
          have := congrArg List.length wd'
          rw [List.length_map, List.length_append, List.length_append, List.length_map, List.length_take, spots_len] at this
          have h5 := Grv.stands_length g
          omega
        refine s_appD (d := stD (.tuple [.str n, .int ((i : Int) + 1), .str wd, .tuple (pl.map PyData.int)], kd)) ld (nol_st nd) (by simp only [stD, noL, noLs, nol_ints, Bool.and_self]) (fun _ _ => ev_var rfl)
          (ed_tup (eda_2 (ed_tup (eda_cons (ed_var rfl (.str n)) (eda_cons (ed_int (ev_op (ev_var rfl) ev_c rv_I0)) (eda_2 (ed_var rfl (.str wd)) (ed_var rfl f5)))) (by show 4 ≤ 100000; decide)) (ed_var rfl (.str kd))) sz2) (by rw [List.length_map]; omega) fun H6 m8 l6 => ?_
        refine ⟨m5.trans m8, m6.trans m8, m7.trans m8, ⟨_, _, rfl⟩, done ++ [(.tuple [.str n, .int ((i : Int) + 1), .str wd, .tuple (pl.map PyData.int)], kd)], by rw [List.map_append]; exact l6, fun p hp => ?_, ?_⟩
        · rcases List.mem_append.mp hp with hp | hp
          · exact nd p hp
          · rw [List.mem_singleton.mp hp]
            simp only [noL, noLs, nol_ints, Bool.and_self]
        · rw [List.map_append, wd', take_snoc hpm, List.map_append, List.append_assoc, List.append_assoc, List.append_assoc]
          rfl
      · rintro p3 H4 hp3 e4 l3 σ4 H5 ⟨m5, m6, m7, ⟨s2, t2, rfl⟩, sw5⟩
        refine ⟨m6, m7, ⟨_, _, _, _, rfl⟩, ?_⟩
        rw [List.length_map, List.take_length, spots_snd] at sw5
        rw [take_snoc hgj, List.flatMap_append]
        simp only [List.flatMap_cons, List.flatMap_nil, List.append_nil]
        rw [← List.append_assoc]
        exact sw5
    · rintro p2 H2 hp2 e3 l2 σ2 H3 ⟨m2, m1, ⟨z1, u1, s1, t1, rfl⟩, sw2⟩
      refine ⟨m1, ⟨_, _, _, _, _, _, rfl⟩, ?_⟩
      rw [take_snoc hri]
      have e : standsK ((rulesOf bk n).take i ++ [r]) = standsK ((rulesOf bk n).take i) ++ (gs.take (gs.map gD).length).flatMap fun p => p.2.stands := by
        show List.flatMap standsR (_ ++ [r]) = _
        rw [List.flatMap_append]
        simp [standsR, gs, standsK]
      rw [e]
      exact sw2
  · rintro p H1 hp e1 l σ' H' ⟨m0, ⟨x0, y0, z0, u0, s0, t0, rfl⟩, done, ld, nd, wd'⟩
    rw [List.length_map, List.take_length] at wd'
    refine ⟨.ref L, rfl, q (done.map stD) L H' (fun n' en => ?_) hL (m0.base hL (eL.trans e1)) ld⟩
    cases en
    exact ⟨done, nd, rfl, wd'⟩
/-- what one of the lists of leads is -/
def LeadsOk (bk : List Kind) (n : Str) (ys : List Str) : Prop := (∀ k, k ∈ ys ↔ k ∈ succ bk n) ∧ ys.length ≤ 6
def leadF (bk : List Kind) (n : Str) (d : PyData) : Prop := ∃ ys, LeadsOk bk n ys ∧ d = .list (ys.map PyData.str)
def PostLeads (bk : List Kind) (ds : List PyData) (d : PyData) : Prop := ∀ n, ds = [.str n] → leadF bk n d
theorem c_leads (T : Txt K mg aO aS B bI) : Cal P w K mg base 6 "leads" (spB K B PreN PostLeads) := by
  have c_steps_of := c_steps_of (P := P) (w := w) (base := base) T
  have sc : FnScope ["book", "name", "step", "kind"] ["book", "name"] (defScope (top 24)) := ⟨rfl, rfl, rfl, by decide +kernel, rfl, by decide +kernel, by decide +kernel⟩
  refine calD T.a_leads sc (spB_len fun bk ds ⟨n, _, e⟩ => by rw [e]; rfl) (fun _ _ _ _ _ _ us hl => match us, hl with | [_, _], _ => rfl) fun f cdv A outer s H vs Q E hr h => ?_
  refine ⟨_, (pss_one (ps_ret (pe_callB (cr_sortX rfl) rfl T.n_sorted b_sorted (pa_cons (pe_callTy (cr_setX rfl) rfl T.n_set b_set (pa_cons (pe_lc rfl sc.nd (show PI _ _ _ (iList K _) from (pi_list (pe_c c_steps_of hr (by omega) rfl (pa_cons (pv 0) (pa_cons (pv 1) pa_nil))))) (blkOk_by (N := ["book", "name", "step", "kind"]) (sc := (defScope (top 24))) (own := [("step", 2), ("kind", 3)]) (by decide +kernel)) (fun _ _ _ _ _ => (show PG _ _ (gTup K 2 _) from (pg_tup rfl (pgs_cons (pg_name (i := 2) sc.nd rfl (Or.inl rfl)) (pgs_cons (pg_name (i := 3) sc.nd rfl (Or.inl rfl)) pgs_nil))))) (fun _ _ _ _ _ => pts_nil) (fun _ _ _ _ _ => (pv 3))) pa_nil)) pa_nil)))), ?_⟩
  obtain ⟨b, vs', bk, ds, rfl, ba, ⟨n, hn, rfl⟩, hv, q⟩ := h
  obtain ⟨vn, rfl, h1⟩ := dpa_one hv
  show (_ : TS) _ [some (.ref b), some vn, none, none] H
  have hl := succ_len ba.ok n
  have hP := (ef_call (E := E0) (σ := [some (.ref b), some vn, none, none]) (ta := tVar 0) (ev_var rfl) ba (eda_1 (ed_var (i := 1) rfl h1)) (Pre := PreN) (Post := PostSteps) ⟨n, hn, rfl⟩).toP
  have hC := ep_lcL (K := K) (te := tVar 3) (t := tYes) (g := gTup K 2 (gCons (gName 2) (gCons (gName 3) gNil))) (vs := [2, 3]) (enc := stD) (out := fun p => .str p.2) (Good := fun l => l.map (·.2) = succ bk n) (f := fun _ => true) (hP.imp fun d ⟨fs, hf, e⟩ => by
      obtain ⟨l, _, e2, e3⟩ := hf n rfl
      exact ⟨l, e3, by rw [e, e2]⟩) (fun ls e => by have := congrArg List.length e; rw [List.length_map] at this; omega) (fun _ _ _ _ _ => rfl)
    (fun ls e p hp v H3 e3 hd R kk => g_two hd fun w1 w2 g1 g2 => kk [some (.ref b), some vn, some w1, some w2] H3 (Ex.refl _) rfl et_yes fun _ => ed_var rfl g2)
  have hD : EvD K _ _ H (.list ((succ bk n).map PyData.str)) := hC.toD fun d ⟨ls, e, ed⟩ => by
    rw [ed, filter_all, ← e, List.map_map]
    rfl
  refine s_retP (ep_sortedX hD (by omega)) fun d v H2 ⟨ys, hy, hyl, ed⟩ e2 hv => q d v H2 (fun m em => ?_) e2 hv
  cases em
  exact ⟨ys, ⟨hy, by omega⟩, ed⟩
theorem ep_leads {σ : L2.St} {H : Hp} {ta tb : TE} {b : Addr} {bk : List Kind} {n : Str} (hb : Ev ta σ H (.ref b)) (ba : BookAt K B H b bk) (h1 : EvD K tb σ H (.str n)) (hn : n ∈ names bk) : EvP K (tCall (spB K B PreN PostLeads) [] E0 (tCons ta (tCons tb tNil))) σ H (leadF bk n) :=
  (ep_call hb ba (eda_1 h1) ⟨n, hn, rfl⟩).imp fun d h => h n rfl
theorem c_look_at_kind (T : Txt K mg aO aS B bI) : Cal P w K mg base 2 "look_at_kind" (spB K B PreN (fun _ _ d => d = .none)) := by
  have m_names := met_names (P := P) (w := w) (base := base) T
  have sc : FnScope ["book", "name"] ["book", "name"] (defScope (top 44)) := ⟨rfl, rfl, rfl, by decide +kernel, rfl, by decide +kernel, by decide +kernel⟩
  refine calD T.a_look_at_kind sc (spB_len fun bk ds ⟨n, _, e⟩ => by rw [e]; rfl) (fun _ _ _ _ _ _ us hl => match us, hl with | [_, _], _ => rfl) fun f cdv A outer s H vs Q E hr h => ?_
  refine ⟨_, (pss_one (ps_if (pt_cmpR (show OpR _ _ (rIn K true) from op_notIn_seq) (pv 1) (pe_mt0 m_names hr (by omega) (pv 0)) (by with_unfolding_all rfl)) (pss_one ps_never) pss_nil)), ?_⟩
  obtain ⟨b, vs', bk, ds, rfl, ba, ⟨n, hn, rfl⟩, hv, q⟩ := h
  obtain ⟨vn, rfl, h1⟩ := dpa_one hv
  show (_ : TS) _ [some (.ref b), some vn] H
  refine s_when (et_test (ev_niS (x := n) (ed_var rfl h1) (ef_names (ev_var rfl) ba).d0)) (fun hb => ?_) fun hb H1 e1 => q .none .non H1 rfl e1 .non
  rw [decide_eq_true hn] at hb
  cases hb
end
end Fell

/-! FP5 -/
set_option Elab.async false
set_option linter.all false
set_option maxRecDepth 100000
set_option maxHeartbeats 4000000
/-! The endless kinds. -/
namespace Fell
open PySem PySem.Spec PyProof.Rows L2 Evl
/-- a list without repeats in the order of texts: no later one is less -/
abbrev Asc (l : List Str) : Prop := l.Pairwise fun a b => ltCps b.cps.toList a.cps.toList = false
theorem ltc (a b : Str) : ltCps a.cps.toList b.cps.toList = decide (a.cps.toList < b.cps.toList) := ltCps_eq _ _
theorem le_tr {a b c : Str} (h1 : ltCps b.cps.toList a.cps.toList = false) (h2 : ltCps c.cps.toList b.cps.toList = false) : ltCps c.cps.toList a.cps.toList = false := by
  rw [ltc, decide_eq_false_iff_not] at h1 h2 ⊢
  intro h
  have h1' := List.not_lt.mp h1
  have h2' := List.not_lt.mp h2
  exact absurd h (List.not_lt.mpr (List.le_trans h1' h2'))
theorem asc_of : ∀ {l : List Str}, sortedS l = true → Asc l
  | [], _ => .nil
  | [x], _ => .cons (fun _ h => nomatch h) .nil
  | x :: y :: r, h => by
    have h' : (!ltCps y.cps.toList x.cps.toList && risingS y r) = true := h
    rw [Bool.and_eq_true, Bool.not_eq_true'] at h'
    have ih : Asc (y :: r) := asc_of (l := y :: r) h'.2
    refine .cons (fun z hz => ?_) ih
    rcases List.mem_cons.mp hz with rfl | hz
    · exact h'.1
    · exact le_tr h'.1 ((List.pairwise_cons.mp ih).1 z hz)
/-- the least of two lists with the same members -/
theorem asc_head {a b : Str} {l m : List Str} (h1 : Asc (a :: l)) (h2 : Asc (b :: m)) (e : ∀ k, k ∈ a :: l ↔ k ∈ b :: m) : a = b := by
  have hab : ltCps b.cps.toList a.cps.toList = false := by
    have hb : b ∈ a :: l := (e b).mpr List.mem_cons_self
    rcases List.mem_cons.mp hb with rfl | hb
    · rw [ltc, decide_eq_false_iff_not]; exact List.lt_irrefl _
    · exact (List.pairwise_cons.mp h1).1 b hb
  have hba : ltCps a.cps.toList b.cps.toList = false := by
    have ha : a ∈ b :: m := (e a).mp List.mem_cons_self
    rcases List.mem_cons.mp ha with rfl | ha
    · rw [ltc, decide_eq_false_iff_not]; exact List.lt_irrefl _
    · exact (List.pairwise_cons.mp h2).1 a ha
  rw [ltc, decide_eq_false_iff_not] at hab hba
  have := List.le_antisymm (List.not_lt.mp hab) (List.not_lt.mp hba)
  cases a with
  | mk x => cases b with
    | mk y => exact congrArg Str.mk (Array.toList_inj.mp this)
/-- what endless_kinds tells -/
structure IsEnd (bk : List Kind) (S : List Str) : Prop where
  asc : Asc S
  few : S.length ≤ 8
  mem : ∀ n ∈ S, n ∈ names bk ∧ ∃ k ∈ succ bk n, k ∈ S
  max : ∀ X : Str → Prop, (∀ n, X n → n ∈ names bk ∧ ∃ k ∈ succ bk n, X k) → ∀ n, X n → n ∈ S
def stepE (bk : List Kind) (S : List Str) (n : Str) : Bool := (succ bk n).any fun k => decide (k ∈ S)
section
variable {P : Program} {w : World} {K : KK} {mg : Str → Option Value} {base : Heap} {aO aS B bI : Addr}
theorem any_same {l m : List Str} {f : Str → Bool} (h : ∀ k, k ∈ l ↔ k ∈ m) : l.any f = m.any f := by
  rw [Bool.eq_iff_iff, List.any_eq_true, List.any_eq_true]
  exact ⟨fun ⟨x, a, b⟩ => ⟨x, (h x).mp a, b⟩, fun ⟨x, a, b⟩ => ⟨x, (h x).mpr a, b⟩⟩
theorem all_same {l m : List Str} {f : Str → Bool} (h : ∀ k, k ∈ l ↔ k ∈ m) : l.all f = m.all f := by
  rw [Bool.eq_iff_iff, List.all_eq_true, List.all_eq_true]
  exact ⟨fun g x a => g x ((h x).mpr a), fun g x a => g x ((h x).mp a)⟩
theorem filter_same {α : Type} {l : List α} {f : α → Bool} (h : l.length ≤ (l.filter f).length) : l.filter f = l := by
  have := List.length_filter_le f l
  exact List.filter_eq_self.mpr (List.length_filter_eq_length_iff.mp (by omega))
theorem names_len {bk : List Kind} (ok : BookOk bk) : (names bk).length ≤ 8 := by rw [names, List.length_map]; exact ok.few
theorem map_filter_all {α : Type} (l : List α) (f : α → PyData) : (l.filter fun _ => true).map f = l.map f := by rw [filter_all]
theorem ev_lenL {σ : L2.St} {H : Hp} {ta : TE} {fs : List PyData} (h : EvD K ta σ H (.list fs)) : Ev (tCB (rLenS K) (tCons ta tNil)) σ H (.int (fs.length : Int)) := ev_int (ed_cb (eda_1 h) rc_lenL)
theorem g_name {i : Nat} {v : V} {σ : L2.St} {H : Hp} {R : L2.St → Hp → Prop} (h : R (σ.set i (some v)) H) : gName i v σ H R := h
theorem q_newD {σ : L2.St} {H : Hp} {tz : TS} {D : Ends} {i : Nat} (f : Str → PyData → Prop) (k : ∀ ld HL, H ld = none → Ex H HL → DictAt K HL ld 0 (fun _ => False) f → tz D (σ.set i (some (.ref ld))) HL) : tSeq (tAsg tDNewK (gName i)) tz D σ H :=
  fun p hp => k p _ hp (Ex.new hp) ⟨[], upd_same, Nat.le_refl _, fun _ h => h.elim⟩
abbrev spEnd (K : KK) (B : Addr) : Sp := spB K B (fun _ ds => ds = []) (fun bk _ d => ∃ S, IsEnd bk S ∧ d = .list (S.map PyData.str))
theorem c_endless_kinds (T : Txt K mg aO aS B bI) : Cal P w K mg base 7 "endless_kinds" (spEnd K B) := by
  have m_names := met_names (P := P) (w := w) (base := base) T
  have c_leads := c_leads (P := P) (w := w) (base := base) T
  have sc : FnScope ["book", "led", "name", "left", "many", "kind"] ["book"] (defScope (top 25)) := ⟨rfl, rfl, rfl, by decide +kernel, rfl, by decide +kernel, by decide +kernel⟩
  refine calD T.a_endless_kinds sc (spB_len (n := 0) fun bk ds e => by rw [e]; rfl) (fun _ _ _ _ _ _ us hl => match us, hl with | [_], _ => rfl) fun f cdv A outer s H vs Q E hr h => ?_
  refine ⟨_, (pss_cons (ps_set (i := 1) sc.nd rfl (Or.inr rfl) pe_dnewK)
    (pss_cons (ps_for PassesOwn.never rfl (show PI _ _ _ (iList K _) from (pi_list (pe_mt0 m_names hr (by omega) (pv 0)))) (pg_name (i := 2) sc.nd rfl (Or.inl rfl))
      (pss_one (ps_dput (hu_of hr) (pv 1) (pv 2) (pe_c c_leads hr (by omega) rfl (pa_cons (pv 0) (pa_cons (pv 2) pa_nil))) rfl)))
    (pss_cons (ps_set (i := 3) sc.nd rfl (Or.inr rfl) (pe_callB cr_sortedS rfl T.n_sorted b_sorted (pa_cons (pe_mt0 m_names hr (by omega) (pv 0)) pa_nil)))
    (pss_cons (ps_set (i := 4) sc.nd rfl (Or.inl rfl) (pe_op op_add (pe_callB (show CallR _ _ (rLenS K) from call_len_seq) rfl T.n_len b_len (pa_cons (pv 3) pa_nil)) pe_int))
    (pss_cons (ps_while PassesOwn.never (pt_cmpR op_lt (pe_callB (show CallR _ _ (rLenS K) from call_len_seq) rfl T.n_len b_len (pa_cons (pv 3) pa_nil)) (pv 4) (nomark _))
      (pss_cons (ps_set (i := 4) sc.nd rfl (Or.inl rfl) (pe_callB (show CallR _ _ (rLenS K) from call_len_seq) rfl T.n_len b_len (pa_cons (pv 3) pa_nil)))
      (pss_one (ps_set (i := 3) sc.nd rfl (Or.inr rfl) (pe_lc (own := [("name", 2)]) rfl sc.nd (show PI _ _ _ (iList K _) from (pi_list (pv 3))) (blkOk_by (N := ["book", "led", "name", "left", "many", "kind"]) (sc := (defScope (top 25))) (own := [("name", 2)]) (by decide +kernel)) (fun _ _ _ _ _ => (pg_name (i := 2) sc.nd rfl (Or.inl rfl))) (fun _ _ _ _ _ => pts_one (pt_val (pe_callB (show CallR _ _ (rAny K) from (cr_any rfl)) rfl T.n_any b_any (pa_cons (pe_lc (own := [("kind", 5)]) rfl sc.nd (show PI _ _ _ (iList K _) from (pi_list (pe_dget (hu_of hr) (pv 1) (pv 2) (fun _ _ => rfl)))) (blkOk_by (N := ["book", "led", "name", "left", "many", "kind"]) (sc := { kind := .function, names := [(".0", .local), ("name", .local), ("any", .globalImplicit), ("led", .cell), ("left", .cell)], isGenerator := false, isCoroutine := false }) (own := [("kind", 5)]) (by decide +kernel)) (fun _ _ _ _ _ => (pg_name (i := 5) sc.nd rfl (Or.inl rfl))) (fun _ _ _ _ _ => pts_nil) (fun _ _ _ _ _ => (pe_cmpR (show OpR _ _ (rIn K false) from op_in_seq) (pv 5) (pv 3) (by with_unfolding_all rfl)))) pa_nil)))) (fun _ _ _ _ _ => (pv 2)))))))
    (pss_one (ps_ret (pv 3)))))))), ?_⟩
  obtain ⟨b, vs', bk, ds, rfl, ba, rfl, hv, q⟩ := h
  cases hv
  show (_ : TS) _ [some (.ref b), none, none, none, none, none] H
  have ok := ba.ok
  have nl := names_len ok
  refine q_newD (K := K) (leadF bk) fun ld HL hld eL lL => ?_
  show (_ : TS) _ [some (.ref b), some (.ref ld), none, none, none, none] HL
  have hLs : ∃ o, HL ld = some o := let ⟨kvs, h, _⟩ := lL; ⟨_, h⟩
  obtain ⟨oL, hoL⟩ := hLs
  refine s_forLF (D := { nx := _, rt := _, bk := _, ct := _ }) (ef_names (ev_var rfl) (ba.ex eL)) (noLs_map fun _ => rfl) (fun p H1 i σ' H' => Mut ld H1 H' ∧ (∃ x, σ' = [some (.ref b), some (.ref ld), x, none, none, none]) ∧ DictAt K H' ld i (· ∈ (names bk).take i) (leadF bk))
    (fun p H1 hp e1 l => ⟨.of_ex (Ex.refl _), ⟨none, rfl⟩, by
      obtain ⟨kvs, a, c, d⟩ := lL.ex e1
      exact ⟨kvs, a, c, fun k hk => by rw [List.take_zero] at hk; cases hk⟩⟩) (fun p H1 hp e1 l i σ' H' pv => ⟨keep_of pv.1 hp hoL l, (let ⟨kvs, a, _⟩ := lL; pv.1.txd (e1 _ _ a))⟩) ?_ ?_
  · rintro p H1 hp e1 l i d x σ' H' hd hx ⟨m0, ⟨x0, rfl⟩, dd⟩
    obtain ⟨n, hni, rfl⟩ := map_get hd
    have hn := List.mem_of_getElem? hni
    have hnx := dp_str hx
    subst hnx
    have hi : i < (names bk).length := (List.getElem?_eq_some_iff.mp hni).1
    refine g_name ?_
    show (_ : TS) _ [some (.ref b), some (.ref ld), some (.str n), none, none, none] H'
    have eH : Ex H H' := m0.base hld (eL.trans e1)
    refine s_dputD (Pst := leadF bk n) dd (ep_leads (ev_var rfl) (ba.ex eH) (ed_var rfl (.str n)) hn) (fun _ _ => ev_var rfl) (fun _ _ => ed_var rfl (.str n)) (fun d h => h) (by omega) fun H2 m2 d2 => ?_
    refine ⟨m0.trans m2, ⟨_, rfl⟩, ?_⟩
    obtain ⟨kvs, a1, a2, a3⟩ := d2
    exact ⟨kvs, a1, a2, fun k hk => a3 k (by
      rw [take_snoc hni] at hk
      rcases List.mem_append.mp hk with hk | hk
      · exact .inl hk
      · exact .inr (List.mem_singleton.mp hk))⟩
  rintro p H1 hp e1 l σ' H' ⟨m0, ⟨x0, rfl⟩, dd⟩
  have eH : Ex H H' := m0.base hld (eL.trans e1)
  rw [List.length_map, List.take_length] at dd
  clear m0 hp e1 l
  refine q_asgP (ep_sortedS (ef_names (ev_var rfl) (ba.ex eH)).d0 (by omega)) fun d vl H2 ⟨ys, hp, hs, ed⟩ e2 hvl => ?_
  subst ed
  show (_ : TS) _ [some (.ref b), some (.ref ld), x0, some vl, none, none] H2
  have hyl : ys.length ≤ 8 := by rw [hp.length_eq]; exact nl
  refine q_asg (v := .int ((ys.length + 1 : Nat) : Int)) (ev_is (ev_op (ev_lenL (ed_var rfl hvl)) ev_c rv_I0) (by rw [List.length_map]; rfl)) fun H3 e3 => ?_
  show (_ : TS) _ [some (.ref b), some (.ref ld), x0, some vl, some (.int ((ys.length + 1 : Nat) : Int)), none] H3
  refine q_while (fun mm σ4 H4 => ∃ S v, σ4 = [some (.ref b), some (.ref ld), x0, some v, some (.int (mm : Nat)), none] ∧ Ex H' H4 ∧ Dp K H4 v (.list (S.map PyData.str)) ∧ Asc S ∧ S.length ≤ 8 ∧ (∀ n ∈ S, n ∈ names bk) ∧ (∀ X : Str → Prop, (∀ n, X n → n ∈ names bk ∧ ∃ k ∈ succ bk n, X k) → ∀ n, X n → n ∈ S) ∧ (S.length < mm ∨ ∀ n ∈ S, stepE bk S n = true)) (ys.length + 1)
    ⟨ys, vl, rfl, e2.trans e3, dp_ex e3 hvl, asc_of hs, hyl, fun n hn => (hp.mem_iff).mp hn, fun X hX n hn => (hp.mem_iff).mpr (hX n hn).1, .inl (Nat.lt_succ_self _)⟩ ?_
  rintro mm σ4 H4 ⟨S, v, rfl, e4, hS, asc, fw, mem, mx, cl⟩
  refine ⟨decide (S.length < mm), et_is (et_test (ev_op (ev_lenL (ed_var rfl hS)) (ev_var rfl) rv_I0)) (by rw [List.length_map]; exact decide_eq_decide.mpr (by omega)), fun hb H5 e5 => ?_, fun hb H5 e5 => ?_⟩
  · have hlt : S.length < mm := of_decide_eq_true hb
    refine ⟨fun σ6 H6 => ∃ S' v', σ6 = [some (.ref b), some (.ref ld), x0, some v', some (.int (S.length : Nat)), none] ∧ Ex H' H6 ∧ Dp K H6 v' (.list (S'.map PyData.str)) ∧ S' = S.filter (stepE bk S), fun σ6 H6 ⟨S', v', e, ex, hd, eS⟩ => ⟨S.length, hlt, S', v', e, ex, hd, ?_, ?_, ?_, ?_, ?_⟩, ?_⟩
    · rw [eS]; exact List.Pairwise.filter _ asc
    · rw [eS]; exact Nat.le_trans (List.length_filter_le _ _) fw
    · rw [eS]; exact fun n hn => mem n (List.mem_filter.mp hn).1
    · rw [eS]
      intro X hX n hn
      refine List.mem_filter.mpr ⟨mx X hX n hn, ?_⟩
      obtain ⟨_, k, hk, xk⟩ := hX n hn
      exact List.any_eq_true.mpr ⟨k, hk, decide_eq_true (mx X hX k xk)⟩
    · by_cases hl : S'.length < S.length
      · exact .inl hl
      · right
        have e0 : S.filter (stepE bk S) = S := filter_same (by rw [eS] at hl; omega)
        rw [e0] at eS
        rw [eS]
        exact List.filter_eq_self.mp e0
    · refine q_asg (v := .int (S.length : Nat)) (ev_is (ev_lenL (ed_var rfl (dp_ex e5 hS))) (by rw [List.length_map])) fun H6 e6 => ?_
      show (_ : TS) _ [some (.ref b), some (.ref ld), x0, some v, some (.int (S.length : Nat)), none] H6
      have hS6 := dp_ex (e5.trans e6) hS
      have e46 : Ex H' H6 := (e4.trans e5).trans e6
      refine s_asgP (EvD.toP (Pst := fun d => d = .list ((S.filter (stepE bk S)).map PyData.str)) (ed_lcL (enc := PyData.str) (out := PyData.str) (ls := S) (f := stepE bk S) (ed_var rfl hS6) (by omega) (fun _ _ _ => rfl)
        fun n hn vn H7 e7 hd R kk => kk [some (.ref b), some (.ref ld), some vn, some v, some (.int (S.length : Nat)), none] H7 (Ex.refl _) rfl (et_B ?_) fun _ => ed_var rfl hd) rfl) fun d v' H7 ed e7 hd => ?_
      · have dd7 := dd.ex (e46.trans e7)
        have hC := ep_lcL (K := K) (σ := [some (.ref b), some (.ref ld), some vn, some v, some (.int (S.length : Nat)), none]) (H := H7) (te := tOp (rIn K false) (tVar 5) (tVar 3)) (t := tYes) (g := gName 5) (tl := tDGet (tVar 1) (tVar 2)) (vs := [5]) (enc := PyData.str) (out := fun k => .bool (decide (k ∈ S))) (Good := LeadsOk bk n) (f := fun _ => true) (kv_get (x := n) (ev_var rfl) (ed_var rfl hd) dd7 (mem n hn)) (fun ls g => by have := g.2; omega) (fun _ _ _ _ _ => rfl)
          (fun ls g k hk vk H8 e8 hd8 R k8 => k8 [some (.ref b), some (.ref ld), some vn, some v, some (.int (S.length : Nat)), some vk] H8 (Ex.refl _) rfl et_yes fun _ => ed_bl (ev_inS (ed_var rfl hd8) (ed_var rfl (dp_ex (e7.trans e8) hS6))))
        exact ev_anyP hC fun d ⟨ls, g, ed⟩ => ⟨ls.map fun k => decide (k ∈ S), by rw [ed, filter_all, List.map_map]; rfl, by rw [any_id]; exact any_same g.1⟩
      · subst ed
        exact ⟨_, v', rfl, e46.trans e7, hd, rfl⟩
  · have hge : ¬ S.length < mm := of_decide_eq_false hb
    have hc := cl.resolve_left hge
    refine s_retD (ed_var rfl (dp_ex e5 hS)) fun v2 H6 e6 hd => q _ v2 H6 ⟨S, ⟨asc, fw, fun n hn => ⟨mem n hn, ?_⟩, mx⟩, rfl⟩ (((eH.trans e4).trans e5).trans e6) hd
    obtain ⟨k, hk, h⟩ := List.any_eq_true.mp (hc n hn)
    exact ⟨k, hk, of_decide_eq_true h⟩
theorem ep_endless {σ : L2.St} {H : Hp} {ta : TE} {b : Addr} {bk : List Kind} (hb : Ev ta σ H (.ref b)) (ba : BookAt K B H b bk) : EvP K (tCall (spEnd K B) [] E0 (tCons ta tNil)) σ H (fun d => ∃ S, IsEnd bk S ∧ d = .list (S.map PyData.str)) := ep_call hb ba eda_nil rfl
end
end Fell

/-! FP6 -/
set_option Elab.async false
set_option linter.all false
set_option maxRecDepth 100000
set_option maxHeartbeats 4000000
/-! Looks; weights of groves; the greatest rule. -/
namespace Fell
open PySem PySem.Spec PyProof.Rows L2 Evl
section
variable {P : Program} {w : World} {K : KK} {mg : Str → Option Value} {base : Heap} {aO aS B bI : Addr}
/-! ### kinds_in: of nothing, of one bare tree -/
def RKinds (n : Nat) (ds : List PyData) (d : PyData) : Prop := ∃ g : Grv, ds = [g.d] ∧ ((1 ≤ n ∧ g = .nil ∧ d = .list []) ∨ (2 ≤ n ∧ ∃ k, g = .cons k .nil 1 .nil ∧ d = .list [.str k]))
theorem ep_sortV {σ : L2.St} {H : Hp} {ta : TE} {l : Addr} {kvs : List (Key × V)} {ks : List Str} (h : Ev ta σ H (.ref l)) (hl : H l = some (.dK kvs)) (hk : kvs.map (·.1) = ks.map Sum.inr) (hn : ks.length < 64) : EvP K (tCB rSortV (tCons (tBM0 K "dict" rKeysV ta) tNil)) σ H (fun d => ∃ ys : List Str, ys.Perm ks ∧ d = .list (ys.map PyData.str)) := fun H1 e Q q =>
  h H1 e _ fun H2 e2 => by
    have h2 := e2 _ _ (e _ _ hl)
    refine ⟨.inr (.inr (.inl ⟨rfl, .inl ⟨kvs, h2⟩⟩)), l, kvs, rfl, rfl, h2, fun p hp => ⟨p, l, kvs, ks, rfl, upd_same, (Ex.new hp) _ _ h2, hk, hn, fun ys r hy _ hr => ?_⟩⟩
    exact q _ _ _ ⟨ys, hy, rfl⟩ ((e2.trans (Ex.new hp)).trans (Ex.new hr)) (.lst (sq_of upd_same) (dpa_strs _))
/-- d[k] = e, the dict known -/
theorem q_dputV {σ : L2.St} {H : Hp} {td ty te : TE} {D : Ends} {tz : TS} {l : Addr} {kvs : List (Key × V)} {x : Str} {v : V} (hl : H l = some (.dK kvs)) (h : Ev te σ H v) (hd : Ev td σ H (.ref l)) (hk : EvD K ty σ H (.str x)) (hn : kvs.length < 1000)
    (k : ∀ H2, Mut l H H2 → H2 l = some (.dK (putK kvs (Sum.inr x) v)) → tz D σ H2) : tSeq (sDPut td ty te) tz D σ H := h H (Ex.refl _) _ fun H1 e1 => hd H1 e1 _ fun H2 e2 => hk H2 (e1.trans e2) _ fun u H3 e3 hu => by
  have hx := dp_str hu
  subst hx
  exact ⟨l, _, rfl, DPut.k (k := Sum.inr x) (((e1.trans e2).trans e3) _ _ hl) (sz_lt (by omega)), k _ (.exl ((e1.trans e2).trans e3) .upd) upd_same⟩
theorem c_kinds_in (T : Txt K mg aO aS B bI) : ∀ n, Cal P w K mg base n "kinds_in" (spR K (RKinds n))
  | 0 => calN (ps := ["grove"]) T.a_kinds_in (fun vs H Q E ⟨_, _, ⟨_, _, h⟩, _⟩ => by rcases h with ⟨h, _⟩ | ⟨h, _⟩ <;> omega) (fun _ _ _ _ _ _ us hl => match us, hl with | [_], _ => rfl)
  | n + 1 => by
    have c_kinds_in := c_kinds_in T n
    have sc : FnScope ["grove", "found", "tree", "many", "kind"] ["grove"] (defScope (top 43)) := ⟨rfl, rfl, rfl, by decide +kernel, rfl, by decide +kernel, by decide +kernel⟩
    refine calD T.a_kinds_in sc (spR_len fun ds d ⟨_, e, _⟩ => by rw [e]; rfl) (fun _ _ _ _ _ _ us hl => match us, hl with | [_], _ => rfl) fun f cdv A outer s H vs Q E hr h => ?_
    refine ⟨_, (pss_cons (ps_set (i := 1) sc.nd rfl (Or.inl rfl) pe_dnewK)
    (pss_cons (ps_for PassesOwn.never rfl (show PI _ _ _ (iTup K _) from (pi_tup (pv 0))) (show PG _ _ (gTup K 2 _) from (pg_tup rfl (pgs_cons (pg_name (i := 2) sc.nd rfl (Or.inl rfl)) (pgs_cons (pg_name (i := 3) sc.nd rfl (Or.inl rfl)) pgs_nil))))
      (pss_cons (ps_dput (hu_of hr) (pv 1) (pe_ix (show IxR _ (rIxT K) from ix_tup) (pv 2) pe_int (fun _ _ => rfl)) pe_bl rfl)
      (pss_one (ps_for PassesOwn.never rfl (show PI _ _ _ (iList K _) from (pi_list (pe_c c_kinds_in hr (by omega) rfl (pa_cons (pe_ix (show IxR _ (rIxT K) from ix_tup) (pv 2) pe_int (fun _ _ => rfl)) pa_nil)))) (pg_name (i := 4) sc.nd rfl (Or.inl rfl))
        (pss_one (ps_dput (hu_of hr) (pv 1) (pv 4) pe_bl rfl))))))
    (pss_one (ps_ret (pe_callB (cr_sortV rfl) rfl T.n_sorted b_sorted (pa_cons (pe_bm0 PySem.F.plainAttrs_dict PySem.F.slot_dict_keys PySem.F.type_dict_keys mt_keysV (pv 1)) pa_nil)))))), ?_⟩
    obtain ⟨ds, d, ⟨g, rfl, hg⟩, hv, q⟩ := h
    obtain ⟨vg, rfl, h1⟩ := dpa_one hv
    show (_ : TS) _ [some vg, none, none, none, none] H
    refine fun ld hld => ?_
    refine g_name ?_
    have eL : Ex H (upd H ld (.dK [])) := Ex.new hld
    have lL : (upd H ld (.dK [])) ld = some (.dK []) := upd_same
    revert eL lL
    generalize upd H ld (.dK []) = HL
    intro eL lL
    show (_ : TS) _ [some vg, some (.ref ld), none, none, none] HL
    refine s_forTD (K := K) (D := { nx := _, rt := _, bk := _, ct := _ }) (ds := g.ds) (ed_var rfl (dp_ex eL h1)) (nol_grvs g) (fun H1 i σ' H' => H1 ld = some (.dK []) ∧ Mut ld H1 H' ∧ Ex H H' ∧ (∃ x y z, σ' = [some vg, some (.ref ld), x, y, z]) ∧ H' ld = some (.dK ((g.toL.take i).map fun p => (Sum.inr p.1.1, V.bl true))))
      (fun H1 e1 => ⟨e1 _ _ lL, .of_ex (Ex.refl _), eL.trans e1, ⟨_, _, _, rfl⟩, e1 _ _ lL⟩) (fun H1 i σ' H' pv => pv.2.1.txd pv.1) ?_ ?_
    · rintro H1 e1 i d x σ' H' hd hx ⟨h0, m0, eH, ⟨x0, y0, z0, rfl⟩, hl⟩
      obtain ⟨p, hp, rfl⟩ := gds_get hd
      rcases hg with ⟨_, rfl, _⟩ | ⟨hn, k, rfl, ed⟩
      · simp [Grv.toL] at hp
      · cases i with
        | succ i => simp [Grv.toL] at hp
        | zero =>
          have ep : ((k, Grv.nil), (1 : Int)) = p := by simpa [Grv.toL] using hp
          subst ep
          refine g_two (d := Grv.trD (k, .nil)) (d' := .int 1) hx fun w1 w2 f1 f2 => ?_
          show (_ : TS) _ [some vg, some (.ref ld), some w1, some w2, z0] H'
          refine q_dputV (K := K) (kvs := []) (x := k) (v := .bl true) hl ev_c (ev_var rfl) (ed_at (i := 0) (ed_var rfl f1) rfl) (by decide) fun H2 m2 hl2 => ?_
          have t2 : Tx H' H2 := m2.txd hl
          refine s_forLD (K := K) (D := { nx := _, rt := _, bk := _, ct := _ }) (ds := []) (ed_call (eda_1 (d := Grv.d .nil) (ed_at (i := 1) (ed_var rfl (dp_tx t2 (nol_tr _) f1)) rfl)) (spd_of ⟨.nil, rfl, .inl ⟨by omega, rfl, rfl⟩⟩)) (fun H3 j σ3 H4 => Ex H2 H3 ∧ Ex H3 H4 ∧ σ3 = [some vg, some (.ref ld), some w1, some w2, z0]) (fun H3 e3 => ⟨e3, Ex.refl _, rfl⟩) (fun H3 j σ3 H4 pv => pv.2.1) (fun H3 e3 j d x σ3 H4 hd => by simp at hd) ?_
          rintro H3 e3 σ3 H4 ⟨e4, e5, rfl⟩
          have e25 := e4.trans e5
          exact ⟨h0, (m0.trans m2).exr e25, (m2.base hld eH).trans e25, ⟨_, _, _, rfl⟩, e25 _ _ hl2⟩
    · rintro H1 e1 σ' H' ⟨h0, m0, eH, ⟨x0, y0, z0, rfl⟩, hl⟩
      have hlen : g.ds.length = g.toL.length := by rw [Grv.ds_length, Grv.toL_length]
      rw [hlen, List.take_length] at hl
      have hgl : g.toL.length ≤ 1 := by rcases hg with ⟨_, rfl, _⟩ | ⟨_, k, rfl, _⟩ <;> simp [Grv.toL]
      refine s_retP (ep_sortV (K := K) (ks := g.toL.map fun p => p.1.1) (ev_var rfl) hl (by rw [List.map_map, List.map_map]; rfl) (by rw [List.length_map]; omega)) fun d' v H2 ⟨ys, hy, ed'⟩ e2 hv => q v H2 (eH.trans e2) ?_
      subst ed'
      rcases hg with ⟨_, rfl, ed⟩ | ⟨_, k, rfl, ed⟩
      · have : ys = [] := List.Perm.eq_nil (by simpa [Grv.toL] using hy)
        subst this
        rw [ed]
        exact hv
      · have : ys = [k] := List.perm_singleton.mp (by simpa [Grv.toL] using hy)
        subst this
        rw [ed]
        exact hv
/-- there are no endless kinds -/
def NoEnd (bk : List Kind) : Prop := ∀ S, IsEnd bk S → S = []
theorem ed_noEnd {σ : L2.St} {H : Hp} {ta : TE} {b : Addr} {bk : List Kind} (hb : Ev ta σ H (.ref b)) (ba : BookAt K B H b bk) (ne : NoEnd bk) : EvD K (tCall (spEnd K B) [] E0 (tCons ta tNil)) σ H (.list (([] : List Str).map PyData.str)) := (ep_endless hb ba).toD fun d ⟨S, hS, e⟩ => by rw [e, ne S hS]
abbrev spLookEnds (K : KK) (B : Addr) : Sp := spB K B (fun bk ds => NoEnd bk ∧ ∃ k, ds = [Grv.d (.cons k .nil 1 .nil)]) (fun _ _ d => d = .none)
theorem c_look_at_ends (T : Txt K mg aO aS B bI) : Cal P w K mg base 8 "look_at_ends" (spLookEnds K B) := by
  have c_endless_kinds := c_endless_kinds (P := P) (w := w) (base := base) T
  have c_kinds_in := c_kinds_in (P := P) (w := w) (base := base) T 2
  have sc : FnScope ["book", "grove", "endless", "some", "kind"] ["book", "grove"] (defScope (top 45)) := ⟨rfl, rfl, rfl, by decide +kernel, rfl, by decide +kernel, by decide +kernel⟩
  refine calD T.a_look_at_ends sc (spB_len fun bk ds ⟨_, n, e⟩ => by rw [e]; rfl) (fun _ _ _ _ _ _ us hl => match us, hl with | [_, _], _ => rfl) fun f cdv A outer s H vs Q E hr h => ?_
  refine ⟨_, (pss_cons (ps_set (i := 2) sc.nd rfl (Or.inr rfl) (pe_c c_endless_kinds hr (by omega) rfl (pa_cons (pv 0) pa_nil)))
    (pss_cons (ps_setLc (i := 3) rfl sc.nd rfl rfl (sw_true rfl rfl rfl rfl) (show PI _ _ _ (iList K _) from (pi_list (pe_c c_kinds_in hr (by omega) rfl (pa_cons (pv 1) pa_nil)))) (blkOk_by (N := ["book", "grove", "endless", "some", "kind"]) (sc := (defScope (top 45))) (own := [("kind", 4)]) (by decide +kernel)) (fun _ _ _ _ _ => (pg_name (i := 4) sc.nd rfl (Or.inl rfl))) (fun _ _ _ _ _ => pts_one (pt_cmpR (show OpR _ _ (rIn K false) from op_in_seq) (pv 4) (pv 2) (by with_unfolding_all rfl))) (fun _ _ _ _ _ => (pv 4)))
    (pss_one (ps_if (pt_cmpR (show OpR _ _ (rNeD K) from (op_neD hr.units)) (pv 3) (pe_lst pa_nil) (nomark _)) (pss_one ps_never) pss_nil)))), ?_⟩
  obtain ⟨b, vs', bk, ds, rfl, ba, ⟨ne, k, rfl⟩, hv, q⟩ := h
  obtain ⟨vg, rfl, h1⟩ := dpa_one hv
  show (_ : TS) _ [some (.ref b), some vg, none, none, none] H
  refine q_asgD (ed_noEnd (ev_var rfl) ba ne) fun ve H1 e1 he => ?_
  show (_ : TS) _ [some (.ref b), some vg, some ve, none, none] H1
  refine q_asgD (d := .list (([k].filter fun x => decide (x ∈ ([] : List Str))).map PyData.str)) (ed_lcL (enc := PyData.str) (out := PyData.str) (ls := [k]) (f := fun x => decide (x ∈ ([] : List Str))) (ed_call (eda_1 (d := Grv.d (.cons k .nil 1 .nil)) (ed_var rfl (dp_ex e1 h1))) (spd_of ⟨_, rfl, .inr ⟨by decide, k, rfl, rfl⟩⟩)) (by show 1 ≤ 40000; decide) (fun _ _ _ => rfl)
    fun x hx v H3 e3 hd R kk => kk [some (.ref b), some vg, some ve, none, some v] H3 (Ex.refl _) rfl (et_test (ev_inS (ed_var rfl hd) (ed_var rfl (dp_ex e3 he)))) fun _ => ed_var rfl hd) fun vz H2 e2 hz => ?_
  have ez : (([k].filter fun x => decide (x ∈ ([] : List Str))).map PyData.str) = [] := by simp
  rw [ez] at hz
  refine g_name ?_
  show (_ : TS) _ [some (.ref b), some vg, some ve, some vz, none] H2
  refine s_when (et_test (ev_neD (d := .list []) (d' := .list []) (ed_var rfl hz) ed_nilL shaped_nilL shaped_nilL)) (fun hb => ?_) fun hb H3 e3 => q .none .non H3 rfl ((e1.trans e2).trans e3) .non
  simp [eqv_nilL] at hb

/-! ### weights -/
/-- f(x, y, z), three names -/
theorem ed_raw3 {σ : L2.St} {H : Hp} {sp : Sp} {E : XK} {i j k : Nat} {x y z : V} {d : PyData} (hx : σ[i]? = some (some x)) (hy : σ[j]? = some (some y)) (hz : σ[k]? = some (some z)) (h : ∀ H1, Ex H H1 → ∀ Q : VK, (∀ v H2, Ex H1 H2 → Dp K H2 v d → Q v H2) → sp [x, y, z] H1 Q E) : EvD K (tCall sp [] E (tCons (tVar i) (tCons (tVar j) (tCons (tVar k) tNil)))) σ H d :=
  fun H1 e Q q => ⟨x, hx, y, hy, z, hz, h H1 e Q q⟩
/-- what is asked of a rank -/
structure RkOk (a : Lad) : Prop where
  parts : a.parts ≤ 1021
  dep : a.dep ≤ 17
  ne : a ≠ .nil
theorem DictAt.sub {H : Hp} {l : Addr} {n : Nat} {S S' : Str → Prop} {f : Str → PyData → Prop} (h : DictAt K H l n S f) (s : ∀ k, S' k → S k) : DictAt K H l n S' f := let ⟨a, b, c, d⟩ := h; ⟨a, b, c, fun k hk => d k (s k hk)⟩
abbrev rkF (rk : Str → Lad) (k : Str) (d : PyData) : Prop := d = (rk k).d
def spWg (K : KK) (B : Addr) (n : Nat) : Sp := fun vs H Q _ => ∃ b l v bk rk g, vs = [.ref b, .ref l, v] ∧ BookAt K B H b bk ∧ DictAt K H l 8 (· ∈ Grv.stands g) (rkF rk) ∧ Dp K H v g.d ∧ g.dep < n ∧ n ≤ 4 ∧ g.parts ≤ 2 ∧ Grv.Ok (· ∈ names bk) g ∧ (∀ k ∈ g.stands, RkOk (rk k)) ∧
  ∀ v H2, Ex H H2 → Dp K H2 v (Grv.wg (sprOf bk) rk .nil g).d → Q v H2
def spTr (K : KK) (B : Addr) (n : Nat) : Sp := fun vs H Q _ => ∃ b l v bk rk, ∃ k : Str, ∃ g, vs = [.ref b, .ref l, v] ∧ BookAt K B H b bk ∧ DictAt K H l 8 (fun x => x = k ∨ x ∈ Grv.stands g) (rkF rk) ∧ Dp K H v (Grv.trD (k, g)) ∧ g.dep < n ∧ n ≤ 4 ∧ g.parts ≤ 2 ∧ k ∈ names bk ∧ Grv.Ok (· ∈ names bk) g ∧ (∀ x, (x = k ∨ x ∈ g.stands) → RkOk (rk x)) ∧
  ∀ v H2, Ex H H2 → Dp K H2 v (Grv.tree (sprOf bk) rk k (Grv.wg (sprOf bk) rk .nil g)).d → Q v H2
theorem wg_bound {sp : Str → Bool} {rk : Str → Lad} {g : Grv} {acc : Lad} (h : ∀ k ∈ g.stands, RkOk (rk k)) : (Grv.wg sp rk acc g).parts ≤ acc.parts + 1022 * g.parts ∧ (Grv.wg sp rk acc g).dep ≤ max acc.dep (17 + g.dep) := by
  -- the manys do not matter for the size
  have aux : ∀ (g : Grv) (acc : Lad), (∀ k ∈ g.stands, RkOk (rk k)) → (Grv.wg sp rk acc g).parts ≤ acc.parts + 1022 * g.parts ∧ (Grv.wg sp rk acc g).dep ≤ max acc.dep (17 + g.dep) := fun g => by
    induction g with
    | nil => intro acc _; simp only [Grv.wg, Grv.parts, Grv.dep]; omega
    | cons k g m r ihg ihr =>
      intro acc h
      have a := h k List.mem_cons_self
      have a1 := a.parts
      have a2 := a.dep
      obtain ⟨i1, i2⟩ := ihg .nil fun x hx => h x (List.mem_cons_of_mem _ (List.mem_append_left _ hx))
      have t : (Grv.tree sp rk k (Grv.wg sp rk .nil g)).parts ≤ 1022 * (1 + g.parts) ∧ (Grv.tree sp rk k (Grv.wg sp rk .nil g)).dep ≤ 17 + (1 + g.dep) := by
        simp only [Lad.parts, Lad.dep] at i1 i2
        unfold Grv.tree
        split
        · obtain ⟨s1, s2, s3⟩ := Lad.spread_facts (rk k) (Grv.wg sp rk .nil g)
          omega
        · have s1 := Lad.parts_behind (rk k) (Grv.wg sp rk .nil g)
          have s2 := Lad.dep_behind (rk k) (Grv.wg sp rk .nil g)
          omega
      obtain ⟨t1, t2⟩ := t
      have m1 := Lad.parts_many (Grv.tree sp rk k (Grv.wg sp rk .nil g)) m
      have m2 := Lad.dep_many (Grv.tree sp rk k (Grv.wg sp rk .nil g)) m
      obtain ⟨b1, b2, b3⟩ := Lad.both_facts acc (Lad.manyOf (Grv.tree sp rk k (Grv.wg sp rk .nil g)) m)
      obtain ⟨r1, r2⟩ := ihr (Lad.both acc (Lad.manyOf (Grv.tree sp rk k (Grv.wg sp rk .nil g)) m)) fun x hx => h x (List.mem_cons_of_mem _ (List.mem_append_right _ hx))
      simp only [Grv.wg, Grv.parts, Grv.dep]
      omega
  exact aux g acc h
theorem tree_bound {sp : Str → Bool} {rk : Str → Lad} {k : Str} {g : Grv} (hk : RkOk (rk k)) (h : ∀ k ∈ g.stands, RkOk (rk k)) : (Grv.tree sp rk k (Grv.wg sp rk .nil g)).parts ≤ 1022 * (1 + g.parts) ∧ (Grv.tree sp rk k (Grv.wg sp rk .nil g)).dep ≤ 18 + g.dep := by
  obtain ⟨i1, i2⟩ := wg_bound (sp := sp) (acc := .nil) h
  have a1 := hk.parts
  have a2 := hk.dep
  simp only [Lad.parts, Lad.dep] at i1 i2
  unfold Grv.tree
  split
  · obtain ⟨s1, s2, s3⟩ := Lad.spread_facts (rk k) (Grv.wg sp rk .nil g)
    omega
  · have s1 := Lad.parts_behind (rk k) (Grv.wg sp rk .nil g)
    have s2 := Lad.dep_behind (rk k) (Grv.wg sp rk .nil g)
    omega
theorem c_weighed_tree (T : Txt K mg aO aS B bI) (n : Nat) (c_weighed : Cal P w K mg base (27 + 2 * n) "weighed" (spWg K B n)) : Cal P w K mg base (28 + 2 * n) "weighed_tree" (spTr K B n) := by
  have m_spreads := met_spreads (P := P) (w := w) (base := base) T
  have c_spread := c_spread (P := P) (w := w) (base := base) T 25
  have c_behind := c_behind (P := P) (w := w) (base := base) T 25
  have sc : FnScope ["book", "ladders", "tree", "kind", "grove", "inner"] ["book", "ladders", "tree"] (defScope (top 47)) := ⟨rfl, rfl, rfl, by decide +kernel, rfl, by decide +kernel, by decide +kernel⟩
  refine Cal.mono (k := 27 + 2 * n + 1) (calD (k := 27 + 2 * n) (sp := spTr K B n) T.a_weighed_tree sc (fun vs H Q E ⟨_, _, _, _, _, _, _, e, _⟩ => by rw [e]; rfl) (fun _ _ _ _ _ _ us hl => match us, hl with | [_, _, _], _ => rfl) fun f cdv A outer s H vs Q E hr h => ?_) (by omega)
  refine ⟨_, (pss_cons (ps_asg (pv 2) (show PG _ _ (gTup K 2 _) from (pg_tup rfl (pgs_cons (pg_name (i := 3) sc.nd rfl (Or.inl rfl)) (pgs_cons (pg_name (i := 4) sc.nd rfl (Or.inl rfl)) pgs_nil)))))
    (pss_cons (ps_set (i := 5) sc.nd rfl (Or.inl rfl) (pe_c c_weighed hr (by omega) rfl (pa_cons (pv 0) (pa_cons (pv 1) (pa_cons (pv 4) pa_nil)))))
    (pss_cons (ps_if (pt_val (pe_mt m_spreads hr (by omega) (pv 0) (pa_cons (pv 3) pa_nil))) (pss_one (ps_ret (pe_c c_spread hr (by omega) rfl (pa_cons (pe_dget (hu_of hr) (pv 1) (pv 3) (fun _ _ => rfl)) (pa_cons (pv 5) pa_nil))))) pss_nil)
    (pss_one (ps_ret (pe_c c_behind hr (by omega) rfl (pa_cons (pe_dget (hu_of hr) (pv 1) (pv 3) (fun _ _ => rfl)) (pa_cons (pv 5) pa_nil)))))))), ?_⟩
  obtain ⟨b, l, v, bk, rk, k, g, rfl, ba, dl, h1, hd, hn, hp, hk, ok, ro, q⟩ := h
  show (_ : TS) _ [some (.ref b), some (.ref l), some v, none, none, none] H
  refine q_asgD (ed_var rfl h1) fun v0 H1 e1 h1' => g_two (d := .str k) (d' := g.d) h1' fun w1 w2 f1 f2 => ?_
  have hw := dp_str f1
  subst hw
  show (_ : TS) _ [some (.ref b), some (.ref l), some v, some (.str k), some w2, none] H1
  have hgr : ∀ x ∈ g.stands, RkOk (rk x) := fun x hx => ro x (.inr hx)
  obtain ⟨b1, b2⟩ := wg_bound (sp := sprOf bk) (acc := .nil) hgr
  simp only [Lad.parts, Lad.dep] at b1 b2
  have hkr := ro k (.inl rfl)
  have hkp := hkr.parts
  have hkd := hkr.dep
  refine q_asgD (d := (Grv.wg (sprOf bk) rk .nil g).d) (ed_raw3 rfl rfl rfl fun H2 e2 Q2 q2 => ⟨b, l, w2, bk, rk, g, rfl, ba.ex (e1.trans e2), (dl.ex (e1.trans e2)).sub fun x hx => .inr hx, dp_ex e2 f2, hd, hn, hp, ok, hgr, q2⟩) fun wi H2 e2 fi => ?_
  show (_ : TS) _ [some (.ref b), some (.ref l), some v, some (.str k), some w2, some wi] H2
  have e12 := e1.trans e2
  have kd : ∀ {H3 : Hp}, Ex H2 H3 → EvD K (tDGet (tVar 1) (tVar 3)) [some (.ref b), some (.ref l), some v, some (.str k), some w2, some wi] H3 (rk k).d := fun e3 => (kv_get (x := k) (ev_var rfl) (ed_var rfl (.str k)) (dl.ex (e12.trans e3)) (.inl rfl)).toD fun d e => e
  refine q_when (et_B (ev_bl (ed_spreads (ev_var rfl) (ba.ex e12) (ed_var rfl (.str k)) hk))) (fun hb H3 e3 => ?_) fun hb H3 e3 => ?_
  · refine s_retD (ed_call (eda_2 (kd e3) (ed_var rfl (dp_ex e3 fi))) (spd_of ⟨rk k, _, ⟨by omega, by omega⟩, ⟨by omega, by omega⟩, ⟨by decide, by decide⟩, hkr.ne, rfl, rfl⟩)) fun v2 H4 e4 hv2 => q v2 H4 ((e12.trans e3).trans e4) ?_
    rw [Grv.tree, if_pos hb]
    exact hv2
  · refine s_retD (ed_call (eda_2 (kd e3) (ed_var rfl (dp_ex e3 fi))) (spd_of ⟨rk k, _, ⟨by omega, by omega⟩, ⟨by omega, by omega⟩, by decide, rfl, rfl⟩)) fun v2 H4 e4 hv2 => q v2 H4 ((e12.trans e3).trans e4) ?_
    rw [Grv.tree, if_neg (by rw [hb]; decide)]
    exact hv2
theorem c_weighed (T : Txt K mg aO aS B bI) : ∀ n, Cal P w K mg base (27 + 2 * n) "weighed" (spWg K B n)
  | 0 => calN (ps := ["book", "ladders", "grove"]) T.a_weighed (fun vs H Q E ⟨_, _, _, _, _, _, _, _, _, _, h, _⟩ => absurd h (Nat.not_lt_zero _)) (fun _ _ _ _ _ _ us hl => match us, hl with | [_, _, _], _ => rfl)
  | n + 1 => by
    have c_weighed_tree := c_weighed_tree T n (c_weighed T n)
    have c_both := c_both (P := P) (w := w) (base := base) T 25
    have c_many_of := c_many_of (P := P) (w := w) (base := base) T 25
    have sc : FnScope ["book", "ladders", "grove", "total", "tree", "many"] ["book", "ladders", "grove"] (defScope (top 48)) := ⟨rfl, rfl, rfl, by decide +kernel, rfl, by decide +kernel, by decide +kernel⟩
    refine Cal.mono (k := 28 + 2 * n + 1) (calD (k := 28 + 2 * n) (sp := spWg K B (n + 1)) T.a_weighed sc (fun vs H Q E ⟨_, _, _, _, _, _, e, _⟩ => by rw [e]; rfl) (fun _ _ _ _ _ _ us hl => match us, hl with | [_, _, _], _ => rfl) fun f cdv A outer s H vs Q E hr h => ?_) (by omega)
    refine ⟨_, (pss_cons (ps_set (i := 3) sc.nd rfl (Or.inl rfl) (pe_tup pa_nil))
    (pss_cons (ps_for PassesOwn.never rfl (show PI _ _ _ (iTup K _) from (pi_tup (pv 2))) (show PG _ _ (gTup K 2 _) from (pg_tup rfl (pgs_cons (pg_name (i := 4) sc.nd rfl (Or.inl rfl)) (pgs_cons (pg_name (i := 5) sc.nd rfl (Or.inl rfl)) pgs_nil))))
      (pss_one (ps_set (i := 3) sc.nd rfl (Or.inl rfl) (pe_c c_both hr (by omega) rfl (pa_cons (pv 3) (pa_cons (pe_c c_many_of hr (by omega) rfl (pa_cons (pe_c c_weighed_tree hr (by omega) rfl (pa_cons (pv 0) (pa_cons (pv 1) (pa_cons (pv 4) pa_nil)))) (pa_cons (pv 5) pa_nil))) pa_nil))))))
    (pss_one (ps_ret (pv 3))))), ?_⟩
    obtain ⟨b, l, v, bk, rk, g, rfl, ba, dl, h1, hd, hn, hp, ok, ro, q⟩ := h
    show (_ : TS) _ [some (.ref b), some (.ref l), some v, none, none, none] H
    refine q_asgD (K := K) (d := Lad.d .nil) ed_nilT fun vt H1 e1 ht => ?_
    show (_ : TS) _ [some (.ref b), some (.ref l), some v, some vt, none, none] H1
    refine s_forTD (K := K) (D := { nx := _, rt := _, bk := _, ct := _ }) (ds := g.ds) (ed_var rfl (dp_ex e1 h1)) (nol_grvs g) (fun H2 i σ' H' => Ex H2 H' ∧ ∃ acc vt x y, σ' = [some (.ref b), some (.ref l), some v, some vt, x, y] ∧ Dp K H' vt (Lad.d acc) ∧ Grv.wg (sprOf bk) rk .nil g = Grv.wg (sprOf bk) rk acc (g.drop i) ∧ acc.parts + 1022 * (g.drop i).parts ≤ 1022 * g.parts ∧ acc.dep ≤ 17 + g.dep)
      (fun H2 e2 => ⟨Ex.refl _, .nil, vt, none, none, rfl, dp_ex e2 ht, by rw [gdrop0], by rw [gdrop0]; simp only [Lad.parts]; omega, by simp only [Lad.dep]; omega⟩) (fun H2 i σ' H' pv => tx_ex pv.1) ?_ ?_
    · rintro H2 e2 i d x σ' H' hdd hx ⟨e3, acc, vt, x0, y0, rfl, ha, hw, hap, had⟩
      obtain ⟨⟨⟨k, g'⟩, m⟩, hp', rfl⟩ := gds_get hdd
      have hm := gmem hp'
      obtain ⟨m1, m2, m3, m4⟩ := Grv.mem_facts hm
      obtain ⟨o1, o2, o3, o4, _⟩ := ok.mem hm
      simp only at m1 m2 m3 m4 o1 o2 o3 o4
      rw [gdrop_get hp'] at hw hap
      simp only [Grv.parts] at hap
      refine g_two (d := Grv.trD (k, g')) (d' := .int m) hx fun w1 w2 f1 f2 => ?_
      have hw2 := dp_int f2
      subst hw2
      show (_ : TS) _ [some (.ref b), some (.ref l), some v, some vt, some w1, some (.int m)] H'
      have eH : Ex H H' := (e1.trans e2).trans e3
      have hgr : ∀ x, (x = k ∨ x ∈ g'.stands) → RkOk (rk x) := fun x hx => hx.elim (fun e => e ▸ ro k m3) fun hx => ro x (m4 x hx)
      obtain ⟨t1, t2⟩ := tree_bound (sp := sprOf bk) (hgr k (.inl rfl)) fun x hx => hgr x (.inr hx)
      have p1 := Lad.parts_many (Grv.tree (sprOf bk) rk k (Grv.wg (sprOf bk) rk .nil g')) m
      have p2 := Lad.dep_many (Grv.tree (sprOf bk) rk k (Grv.wg (sprOf bk) rk .nil g')) m
      obtain ⟨b1, b2, _⟩ := Lad.both_facts acc (Lad.manyOf (Grv.tree (sprOf bk) rk k (Grv.wg (sprOf bk) rk .nil g')) m)
      refine s_asgP (EvD.toP (Pst := fun d => d = (Lad.both acc (Lad.manyOf (Grv.tree (sprOf bk) rk k (Grv.wg (sprOf bk) rk .nil g')) m)).d) (ed_call (eda_2 (d := acc.d) (d' := (Lad.manyOf (Grv.tree (sprOf bk) rk k (Grv.wg (sprOf bk) rk .nil g')) m).d) (ed_var rfl ha)
        (ed_call (eda_2 (d := (Grv.tree (sprOf bk) rk k (Grv.wg (sprOf bk) rk .nil g')).d) (d' := .int m) (ed_raw3 rfl rfl rfl fun H4 e4 Q2 q2 => ⟨b, l, w1, bk, rk, k, g', rfl, ba.ex (eH.trans e4), (dl.ex (eH.trans e4)).sub (fun x hx => hx.elim (fun e => e ▸ m3) fun hx => m4 x hx), dp_ex e4 f1, by omega, by omega, by omega, o1, o2, hgr, q2⟩) (ed_var rfl (.int m)))
          (spd_of ⟨_, m, ⟨by omega, by omega⟩, ⟨by omega, by omega⟩, rfl, rfl⟩))) (spd_of ⟨acc, _, ⟨by omega, by omega⟩, ⟨by omega, by omega⟩, by decide, rfl, rfl⟩)) rfl) fun d v' H4 ed e4 hv' => ?_
      subst ed
      exact ⟨e3.trans e4, _, v', some w1, some (.int m), rfl, hv', by rw [hw, Grv.wg], by omega, by omega⟩
    · rintro H2 e2 σ' H' ⟨e3, acc, vt, x0, y0, rfl, ha, hw, hap, had⟩
      rw [Grv.ds_length, gdrop_end (Nat.le_refl _), Grv.wg] at hw
      refine s_retD (ed_var rfl ha) fun v2 H3 e4 hv2 => q v2 H3 (((e1.trans e2).trans e3).trans e4) ?_
      rw [hw]
      exact hv2
def spAR (K : KK) (B : Addr) : Sp := fun vs H Q _ => ∃ b l v bk rk, ∃ r : Rule, vs = [.ref b, .ref l, v] ∧ BookAt K B H b bk ∧ DictAt K H l 8 (· ∈ standsR r) (rkF rk) ∧ Dp K H v (ruleD r) ∧ RuleOk (· ∈ names bk) r ∧ (∀ k ∈ standsR r, RkOk (rk k)) ∧
  ∀ v H2, Ex H H2 → Dp K H2 v (wgR (sprOf bk) rk r).d → Q v H2
theorem c_above_rule (T : Txt K mg aO aS B bI) : Cal P w K mg base 34 "above_rule" (spAR K B) := by
  have c_weighed := c_weighed (P := P) (w := w) (base := base) T 3
  have c_above := c_above (P := P) (w := w) (base := base) T 25
  have sc : FnScope ["book", "ladders", "rule", "once", "each"] ["book", "ladders", "rule"] (defScope (top 50)) := ⟨rfl, rfl, rfl, by decide +kernel, rfl, by decide +kernel, by decide +kernel⟩
  refine calD T.a_above_rule sc (fun vs H Q E ⟨_, _, _, _, _, _, e, _⟩ => by rw [e]; rfl) (fun _ _ _ _ _ _ us hl => match us, hl with | [_, _, _], _ => rfl) fun f cdv A outer s H vs Q E hr h => ?_
  refine ⟨_, (pss_cons (ps_asg (pv 2) (show PG _ _ (gTup K 2 _) from (pg_tup rfl (pgs_cons (pg_name (i := 3) sc.nd rfl (Or.inl rfl)) (pgs_cons (pg_name (i := 4) sc.nd rfl (Or.inl rfl)) pgs_nil)))))
    (pss_one (ps_ret (pe_c c_above hr (by omega) rfl (pa_cons (pe_c c_weighed hr (by omega) rfl (pa_cons (pv 0) (pa_cons (pv 1) (pa_cons (pv 3) pa_nil)))) (pa_cons (pe_c c_weighed hr (by omega) rfl (pa_cons (pv 0) (pa_cons (pv 1) (pa_cons (pv 4) pa_nil)))) pa_nil)))))), ?_⟩
  obtain ⟨b, l, v, bk, rk, r, rfl, ba, dl, h1, ok, ro, q⟩ := h
  show (_ : TS) _ [some (.ref b), some (.ref l), some v, none, none] H
  refine q_asgD (ed_var rfl h1) fun v0 H1 e1 h1' => g_two (d := r.1.d) (d' := r.2.d) h1' fun w1 w2 f1 f2 => ?_
  show (_ : TS) _ [some (.ref b), some (.ref l), some v, some w1, some w2] H1
  have few := ok.few
  have d1 := r.1.dep_le_parts
  have d2 := r.2.dep_le_parts
  have r1 : ∀ k ∈ r.1.stands, RkOk (rk k) := fun k hk => ro k (List.mem_append_left _ hk)
  have r2 : ∀ k ∈ r.2.stands, RkOk (rk k) := fun k hk => ro k (List.mem_append_right _ hk)
  obtain ⟨b1, b2⟩ := wg_bound (sp := sprOf bk) (acc := .nil) r1
  obtain ⟨b3, b4⟩ := wg_bound (sp := sprOf bk) (acc := .nil) r2
  simp only [Lad.parts, Lad.dep] at b1 b2 b3 b4
  refine s_retD (d := (wgR (sprOf bk) rk r).d) (ed_call (eda_2 (d := (Grv.wg (sprOf bk) rk .nil r.1).d) (d' := (Grv.wg (sprOf bk) rk .nil r.2).d)
    (ed_raw3 rfl rfl rfl fun H2 e2 Q2 q2 => ⟨b, l, w1, bk, rk, r.1, rfl, ba.ex (e1.trans e2), (dl.ex (e1.trans e2)).sub (fun x hx => List.mem_append_left _ hx), dp_ex e2 f1, by omega, by decide, by omega, ok.o, r1, q2⟩)
    (ed_raw3 rfl rfl rfl fun H2 e2 Q2 q2 => ⟨b, l, w2, bk, rk, r.2, rfl, ba.ex (e1.trans e2), (dl.ex (e1.trans e2)).sub (fun x hx => List.mem_append_right _ hx), dp_ex e2 f2, by omega, by decide, by omega, ok.e, r2, q2⟩))
    (spd_of ⟨_, _, ⟨by omega, by omega⟩, ⟨by omega, by omega⟩, ⟨by decide, by decide⟩, trivial, rfl, rfl⟩)) fun v2 H2 e2 hv => q v2 H2 (e1.trans e2) hv
theorem wgR_dep {sp : Str → Bool} {rk : Str → Lad} {r : Rule} {ok : Str → Prop} (o : RuleOk ok r) (ro : ∀ k ∈ standsR r, RkOk (rk k)) : (wgR sp rk r).dep ≤ 20 := by
  have few := o.few
  have d1 := r.1.dep_le_parts
  have d2 := r.2.dep_le_parts
  obtain ⟨b1, b2⟩ := wg_bound (sp := sp) (acc := .nil) (g := r.1) (rk := rk) fun k hk => ro k (List.mem_append_left _ hk)
  obtain ⟨b3, b4⟩ := wg_bound (sp := sp) (acc := .nil) (g := r.2) (rk := rk) fun k hk => ro k (List.mem_append_right _ hk)
  simp only [Lad.parts, Lad.dep] at b1 b2 b3 b4
  obtain ⟨c1, c2, _⟩ := Lad.above_facts (Grv.wg sp rk .nil r.1) (Grv.wg sp rk .nil r.2)
  unfold wgR
  omega
def spGR (K : KK) (B : Addr) : Sp := fun vs H Q _ => ∃ b l v bk rk n, vs = [.ref b, .ref l, v] ∧ BookAt K B H b bk ∧ DictAt K H l 8 (· ∈ succ bk n) (rkF rk) ∧ Dp K H v (.str n) ∧ n ∈ names bk ∧ (∀ k ∈ succ bk n, RkOk (rk k)) ∧
  ∀ (j : Int) v H2, Ex H H2 → Dp K H2 v (.tuple [.int j, (best (sprOf bk) rk (rulesOf bk n)).d]) → Q v H2
theorem above_nil : Lad.above .nil .nil = .one := both_nil_left _
theorem c_greatest_rule (T : Txt K mg aO aS B bI) : Cal P w K mg base 35 "greatest_rule" (spGR K B) := by
  have c_above_rule := c_above_rule (P := P) (w := w) (base := base) T
  have c_above := c_above (P := P) (w := w) (base := base) T 25
  have c_is_less := c_is_less (P := P) (w := w) (base := base) T 25
  have m_rules := met_rules (P := P) (w := w) (base := base) T
  have sc : FnScope ["book", "ladders", "name", "best", "ladder", "at", "rule", "found"] ["book", "ladders", "name"] (defScope (top 51)) := ⟨rfl, rfl, rfl, by decide +kernel, rfl, by decide +kernel, by decide +kernel⟩
  refine calD T.a_greatest_rule sc (fun vs H Q E ⟨_, _, _, _, _, _, e, _⟩ => by rw [e]; rfl) (fun _ _ _ _ _ _ us hl => match us, hl with | [_, _, _], _ => rfl) fun f cdv A outer s H vs Q E hr h => ?_
  refine ⟨_, (pss_cons (ps_set (i := 3) sc.nd rfl (Or.inl rfl) pe_int)
    (pss_cons (ps_set (i := 4) sc.nd rfl (Or.inl rfl) (pe_c c_above hr (by omega) rfl (pa_cons (pe_tup pa_nil) (pa_cons (pe_tup pa_nil) pa_nil))))
    (pss_cons (ps_for PassesOwn.never rfl (pi_enum rfl T.n_enumerate (pa_cons (pe_mt m_rules hr (by omega) (pv 0) (pa_cons (pv 2) pa_nil)) pa_nil)) (show PG _ _ (gTup K 2 _) from (pg_tup rfl (pgs_cons (pg_name (i := 5) sc.nd rfl (Or.inl rfl)) (pgs_cons (pg_name (i := 6) sc.nd rfl (Or.inl rfl)) pgs_nil))))
      (pss_cons (ps_set (i := 7) sc.nd rfl (Or.inl rfl) (pe_c c_above_rule hr (by omega) rfl (pa_cons (pv 0) (pa_cons (pv 1) (pa_cons (pv 6) pa_nil)))))
      (pss_one (ps_if (pt_val (pe_c c_is_less hr (by omega) rfl (pa_cons (pv 4) (pa_cons (pv 7) pa_nil)))) (pss_cons (ps_set (i := 3) sc.nd rfl (Or.inl rfl) (pe_op op_add (pv 5) pe_int))
        (pss_one (ps_set (i := 4) sc.nd rfl (Or.inl rfl) (pv 7)))) pss_nil))))
    (pss_one (ps_ret (pe_tup (pa_cons (pv 3) (pa_cons (pv 4) pa_nil)))))))), ?_⟩
  obtain ⟨b, l, v, bk, rk, n, rfl, ba, dl, h1, hn, ro, q⟩ := h
  have hv := dp_str h1
  subst hv
  show (_ : TS) _ [some (.ref b), some (.ref l), some (.str n), none, none, none, none, none] H
  refine q_asg ev_c fun H1 e1 => ?_
  show (_ : TS) _ [some (.ref b), some (.ref l), some (.str n), some (.int 0), none, none, none, none] H1
  refine q_asgD (d := Lad.d .one) (by rw [← above_nil]; exact ed_call (eda_2 (d := Lad.d .nil) (d' := Lad.d .nil) ed_nilT ed_nilT) (spd_of ⟨.nil, .nil, ⟨by decide, by decide⟩, ⟨by decide, by decide⟩, ⟨by decide, by decide⟩, trivial, rfl, rfl⟩)) fun vl H2 e2 hl => ?_
  show (_ : TS) _ [some (.ref b), some (.ref l), some (.str n), some (.int 0), some vl, none, none, none] H2
  have e12 := e1.trans e2
  refine s_forEF (K := K) (D := { nx := _, rt := _, bk := _, ct := _ }) (ef_rules (ev_var rfl) (ba.ex e12) (ed_var rfl (.str n)) hn) (noLs_map nol_rule) (fun p H3 i σ' H' => Ex H3 H' ∧ ∃ (j : Int) (vl : V) (x y z : Option V), σ' = [some (.ref b), some (.ref l), some (.str n), some (.int j), some vl, x, y, z] ∧ Dp K H' vl (((rulesOf bk n).take i).foldl (bestStep (sprOf bk) rk) .one).d ∧ (((rulesOf bk n).take i).foldl (bestStep (sprOf bk) rk) .one).dep ≤ 20)
    (fun p H3 hp e3 _ => ⟨Ex.refl _, 0, vl, none, none, none, rfl, dp_ex e3 hl, by rw [List.take_zero]; show Lad.one.dep ≤ 20; decide⟩) (fun p H3 hp e3 lp i σ' H' pv => ⟨by obtain ⟨xs, hx, _⟩ := lp; rw [hx]; exact pv.1 _ _ hx, tx_ex pv.1⟩) ?_ ?_
  · rintro p H3 hp e3 lp i d x σ' H0 H' hd hx ⟨e4, j, vl, x0, y0, z0, rfl, hl, hdl⟩ e5
    obtain ⟨r, hri, rfl⟩ := map_get hd
    have hr := List.mem_of_getElem? hri
    have hR := ba.ok.rule hr
    have rr : ∀ k ∈ standsR r, k ∈ succ bk n := fun k hk => List.mem_flatMap.mpr ⟨r, hr, hk⟩
    have ror : ∀ k ∈ standsR r, RkOk (rk k) := fun k hk => ro k (rr k hk)
    refine g_two hx fun w1 w2 f1 f2 => ?_
    have hw1 := dp_int f1
    subst hw1
    show (_ : TS) _ [some (.ref b), some (.ref l), some (.str n), some (.int j), some vl, some (.int (i : Nat)), some w2, z0] H'
    have eH : Ex H H' := (e12.trans e3).trans (e4.trans e5)
    have hwd := wgR_dep (sp := sprOf bk) hR ror
    have ef : ((rulesOf bk n).take (i + 1)).foldl (bestStep (sprOf bk) rk) .one = bestStep (sprOf bk) rk (((rulesOf bk n).take i).foldl (bestStep (sprOf bk) rk) .one) r := by rw [take_snoc hri, List.foldl_append]; rfl
    refine q_asgD (d := (wgR (sprOf bk) rk r).d) (ed_raw3 rfl rfl rfl fun H6 e6 Q2 q2 => ⟨b, l, w2, bk, rk, r, rfl, ba.ex (eH.trans e6), (dl.ex (eH.trans e6)).sub rr, dp_ex e6 f2, hR, ror, q2⟩) fun wf H6 e6 hf => ?_
    show (_ : TS) _ [some (.ref b), some (.ref l), some (.str n), some (.int j), some vl, some (.int (i : Nat)), some w2, some wf] H6
    have hl6 := dp_ex (e5.trans e6) hl
    refine s_when (et_B (ev_bl (ed_call (eda_2 (d := (((rulesOf bk n).take i).foldl (bestStep (sprOf bk) rk) .one).d) (d' := (wgR (sprOf bk) rk r).d) (ed_var rfl hl6) (ed_var rfl hf)) (less_call (k := 25) (by omega) (by omega) (by decide))))) (fun hb H7 e7 => ?_) fun hb H7 e7 => ?_
    · refine q_asg (ev_op (ev_var rfl) ev_c rv_I0) fun H8 e8 => ?_
      show (_ : TS) _ [some (.ref b), some (.ref l), some (.str n), some (.int ((i : Nat) + 1)), some vl, some (.int (i : Nat)), some w2, some wf] H8
      refine s_asgP (EvD.toP (Pst := fun d => d = (wgR (sprOf bk) rk r).d) (ed_var rfl (dp_ex (e7.trans e8) hf)) rfl) fun d v' H9 ed e9 hv' => ?_
      subst ed
      refine ⟨((((e4.trans e5).trans e6).trans e7).trans e8).trans e9, _, v', _, _, _, rfl, ?_, ?_⟩
      · rw [ef, bestStep, if_pos hb]; exact hv'
      · rw [ef, bestStep, if_pos hb]; exact hwd
    · refine ⟨(((e4.trans e5).trans e6).trans e7), j, vl, _, _, _, rfl, ?_, ?_⟩
      · rw [ef, bestStep, if_neg (by rw [hb]; decide)]; exact dp_ex e7 hl6
      · rw [ef, bestStep, if_neg (by rw [hb]; decide)]; exact hdl
  · rintro p H3 hp e3 lp σ' H' ⟨e4, j, vl, x0, y0, z0, rfl, hl, hdl⟩
    rw [List.length_map, List.take_length] at hl
    exact s_retD (ed_tup (eda_2 (ed_int (ev_var rfl)) (ed_var rfl hl)) sz2) fun v2 H4 e5 hv => q j v2 H4 ((e12.trans e3).trans (e4.trans e5)) hv
end
end Fell

/-! FM4 -/
set_option autoImplicit false
set_option linter.all false
/-! Plain Lean: own ranks by levels; the first of the greatest. -/
namespace Fell
open PySem
theorem best_congr {sp : Str → Bool} {rk rk' : Str → Lad} : ∀ (rs : List Rule) (l : Lad), (∀ k ∈ standsK rs, rk k = rk' k) → rs.foldl (bestStep sp rk) l = rs.foldl (bestStep sp rk') l
  | [], _, _ => rfl
  | r :: rs, l, h => by
    have h1 : ∀ k ∈ standsR r, rk k = rk' k := fun k hk => h k (List.mem_flatMap.mpr ⟨r, List.mem_cons_self, hk⟩)
    have e : wgR sp rk r = wgR sp rk' r := by
      unfold wgR
      rw [Grv.wg_congr r.1 _ fun k hk => h1 k (List.mem_append_left _ hk), Grv.wg_congr r.2 _ fun k hk => h1 k (List.mem_append_right _ hk)]
    have e2 : bestStep sp rk l r = bestStep sp rk' l r := by unfold bestStep; rw [e]
    rw [List.foldl_cons, List.foldl_cons, e2]
    refine best_congr rs _ fun k hk => ?_
    obtain ⟨x, hx, hk⟩ := List.mem_flatMap.mp hk
    exact h k (List.mem_flatMap.mpr ⟨x, List.mem_cons_of_mem _ hx, hk⟩)
def rkG (bk : List Kind) : Nat → Str → Lad
  | 0, _ => .nil
  | j + 1, n => best (sprOf bk) (rkG bk j) (rulesOf bk n)
/-- every way from n ends within j steps -/
def Ht (bk : List Kind) : Nat → Str → Prop
  | 0, _ => False
  | j + 1, n => ∀ k ∈ succ bk n, Ht bk j k
theorem Ht.up {bk : List Kind} : ∀ {j : Nat} {n : Str}, Ht bk j n → Ht bk (j + 1) n
  | 0, _, h => h.elim
  | j + 1, _, h => fun k hk => Ht.up (h k hk)
theorem Ht.mono {bk : List Kind} {j : Nat} {n : Str} (h : Ht bk j n) : ∀ {i : Nat}, j ≤ i → Ht bk i n := fun {i} hi => by
  induction i with
  | zero => have : j = 0 := by omega
            subst this; exact h
  | succ i ih =>
    by_cases e : j = i + 1
    · subst e; exact h
    · exact (ih (by omega)).up
theorem rkG_eq {bk : List Kind} : ∀ {j : Nat} {n : Str}, Ht bk j n → ∀ {i : Nat}, j ≤ i → rkG bk i n = rkG bk j n
  | 0, _, h, _, _ => h.elim
  | j + 1, n, h, 0, hi => by omega
  | j + 1, n, h, i + 1, hi => best_congr _ _ fun k hk => rkG_eq (h k hk) (by omega)
theorem rkG_ok {bk : List Kind} (ok : BookOk bk) : ∀ {j : Nat} {n : Str}, Ht bk j n → LadOk j (rkG bk j n)
  | 0, _, h => h.elim
  | j + 1, n, h => best_ok (fun r hr => ok.rule hr) fun k hk => rkG_ok ok (h k hk)
theorem rkG_ne (bk : List Kind) (j : Nat) (n : Str) : rkG bk (j + 1) n ≠ .nil := best_ne _ _ fun e => nomatch e
/-- the own rank of a kind of a book without endless kinds -/
def rkO (bk : List Kind) (n : Str) : Lad := rkG bk 8 n
theorem rkO_ok {bk : List Kind} (ok : BookOk bk) {n : Str} (h : Ht bk 8 n) : LadOk 8 (rkO bk n) := rkG_ok ok h
theorem rkO_ne (bk : List Kind) (n : Str) : rkO bk n ≠ .nil := rkG_ne bk 7 n
theorem rkO_best {bk : List Kind} {n : Str} (h : ∀ k ∈ succ bk n, Ht bk 7 k) : best (sprOf bk) (rkO bk) (rulesOf bk n) = rkO bk n :=
  best_congr _ _ fun k hk => rkG_eq (h k hk) (by decide)
/-- nm, at its first place, has the greatest m of l -/
def IsTop (l : List Str) (pl : Str → Nat) (m : Nat) (nm : Str) : Prop := ∃ i : Nat, l[i]? = some nm ∧ pl nm = m ∧ (∀ k ∈ l, pl k ≤ m) ∧ ∀ (j : Nat) (k : Str), j < i → l[j]? = some k → pl k < m
theorem IsTop.one {pl : Str → Nat} {n : Str} : IsTop [n] pl (pl n) n := ⟨0, rfl, rfl, fun k hk => by rw [List.mem_singleton.mp hk]; exact Nat.le_refl _, fun j k hj _ => absurd hj (Nat.not_lt_zero _)⟩
theorem IsTop.keep {l : List Str} {pl : Str → Nat} {m : Nat} {nm n : Str} (h : IsTop l pl m nm) (hn : pl n ≤ m) : IsTop (l ++ [n]) pl m nm := by
  obtain ⟨i, h1, h2, h3, h4⟩ := h
  have hi := (List.getElem?_eq_some_iff.mp h1).1
  refine ⟨i, by rw [List.getElem?_append_left hi]; exact h1, h2, fun k hk => ?_, fun j k hj hk => h4 j k hj (by rw [List.getElem?_append_left (by omega)] at hk; exact hk)⟩
  rcases List.mem_append.mp hk with hk | hk
  · exact h3 k hk
  · rw [List.mem_singleton.mp hk]; exact hn
theorem IsTop.new {l : List Str} {pl : Str → Nat} {m : Nat} {nm n : Str} (h : IsTop l pl m nm) (hn : m < pl n) : IsTop (l ++ [n]) pl (pl n) n := by
  obtain ⟨i, h1, h2, h3, h4⟩ := h
  refine ⟨l.length, by rw [List.getElem?_append_right (Nat.le_refl _), Nat.sub_self]; rfl, rfl, fun k hk => ?_, fun j k hj hk => ?_⟩
  · rcases List.mem_append.mp hk with hk | hk
    · have := h3 k hk; omega
    · rw [List.mem_singleton.mp hk]; exact Nat.le_refl _
  · rw [List.getElem?_append_left hj] at hk
    have := h3 k (List.mem_of_getElem? hk)
    omega
theorem IsTop.uniq {l : List Str} {pl : Str → Nat} {m m' : Nat} {nm nm' : Str} (h : IsTop l pl m nm) (h' : IsTop l pl m' nm') : m = m' ∧ nm = nm' := by
  obtain ⟨i, h1, h2, h3, h4⟩ := h
  obtain ⟨i', h1', h2', h3', h4'⟩ := h'
  have e : m = m' := by
    have := h3 nm' (List.mem_of_getElem? h1')
    have := h3' nm (List.mem_of_getElem? h1)
    omega
  subst e
  refine ⟨rfl, ?_⟩
  rcases Nat.lt_trichotomy i i' with h | h | h
  · have := h4' i nm h h1; omega
  · subst h
    rw [h1] at h1'
    exact Option.some.inj h1'
  · have := h4 i' nm' h h1'; omega
def sorts : List Str := ["number", "pair", "power", "tower"]
def sIx (x : Str) : Nat := if x = "number" then 0 else if x = "pair" then 1 else if x = "power" then 2 else 3
theorem sortOf_mem (a : Lad) : a.sortOf = "number" ∨ a.sortOf = "pair" ∨ a.sortOf = "power" ∨ a.sortOf = "tower" := by
  unfold Lad.sortOf
  split
  · exact .inl rfl
  · split
    · exact .inr (.inl rfl)
    · split
      · exact .inr (.inr (.inl rfl))
      · exact .inr (.inr (.inr rfl))
theorem sIx_at (a : Lad) : sorts[sIx a.sortOf]? = some a.sortOf ∧ ∀ m, m < sIx a.sortOf → sorts[m]? ≠ some a.sortOf := by
  rcases sortOf_mem a with h | h | h | h <;> rw [h] <;> decide
theorem sIx_le (a : Lad) : sIx a.sortOf < 4 := by
  rcases sortOf_mem a with h | h | h | h <;> rw [h] <;> decide
end Fell

/-! FP7 -/
set_option Elab.async false
set_option linter.all false
set_option maxRecDepth 100000
set_option maxHeartbeats 4000000
/-! Own ranks; the sort that a book needs. -/
namespace Fell
open PySem PySem.Spec PyProof.Rows L2 Evl
section
variable {P : Program} {w : World} {K : KK} {mg : Str → Option Value} {base : Heap} {aO aS B bI : Addr}
/-- a loop over a list that stands from an earlier heap on; later lists and dicts may change -/
theorem s_forLS {σ : L2.St} {H0 H : Hp} {tu : TS} {g : TG} {D : Ends} {fs : List PyData} {i : Nat} {v : V} (hv : σ[i]? = some (some v)) (hd : Dp K H0 v (.list fs)) (Pv : Nat → L2.St → Hp → Prop) (h0 : Pv 0 σ H) (ht : ∀ i σ' H', Pv i σ' H' → Qx H0 H')
    (hs : ∀ i d x σ' H', fs[i]? = some d → Dp K H' x d → Pv i σ' H' → g x σ' H' fun σ2 H2 => tu { D with nx := Pv (i + 1), ct := Pv (i + 1), bk := D.nx } σ2 H2) (hn : ∀ σ' H', Pv fs.length σ' H' → D.nx σ' H') : tFor (iList K (tVar i)) g tu D σ H := by
  obtain ⟨a, xs, rfl, hs0, hx⟩ := dp_lst hd
  have sq : ∀ {H'}, Qx H0 H' → SqL K H' a xs := fun q => hs0.imp (q.1 _ _) id
  refine ⟨_, hv, a, rfl, ⟨xs, sq (ht 0 σ H h0)⟩, for_list Pv h0 (fun i σ' H' _ p => sq (ht i σ' H' p)) (fun i x σ' H' hi p => ?_) fun σ' H' p => ?_⟩
  · obtain ⟨d, h1, h2⟩ := dpa_get hx hi
    exact hs i d x σ' H' h1 (dp_qx (ht i σ' H' p) h2) p
  · rw [dpa_len hx] at p
    exact hn σ' H' p
theorem Qx.refl (H : Hp) : Qx H H := ⟨fun _ _ h => h, .refl _⟩
theorem Qx.trans {H H1 H2 : Hp} (a : Qx H H1) (b : Qx H1 H2) : Qx H H2 := ⟨fun x y h => b.1 x y (a.1 x y h), a.2.trans b.2⟩
theorem Ex.qx {H H1 : Hp} (e : Ex H H1) : Qx H H1 := ⟨fun _ _ h => ex_rd e h, tx_ex e⟩
/-- a dict that has just the keys of Dl -/
def DictX (K : KK) (H : Hp) (l : Addr) (Dl : List Str) (f : Str → Lad) : Prop := ∃ kvs, H l = some (.dK kvs) ∧ kvs.length ≤ Dl.length ∧ (∀ k ∈ Dl, ∃ v, valV kvs (.inr k) = some v ∧ Dp K H v (f k).d) ∧ ∀ k, k ∉ Dl → valV kvs (.inr k) = none
section
variable {H H' : Hp} {l M : Addr} {Dl : List Str} {f : Str → Lad}
theorem DictX.ex (h : DictX K H l Dl f) (e : Ex H H') : DictX K H' l Dl f := let ⟨kvs, a, b, c, d⟩ := h; ⟨kvs, e _ _ a, b, fun k hk => let ⟨v, p, q⟩ := c k hk; ⟨v, p, dp_ex e q⟩, d⟩
theorem DictX.other (h : DictX K H l Dl f) (m : Mut M H H') (t : Tx H H') (n : l ≠ M) : DictX K H' l Dl f := let ⟨kvs, a, b, c, d⟩ := h; ⟨kvs, m _ _ n a, b, fun k hk => let ⟨v, p, q⟩ := c k hk; ⟨v, p, dp_tx t (nol_lad _) q⟩, d⟩
theorem DictX.at_ (h : DictX K H l Dl f) {n : Nat} (hn : Dl.length ≤ n) : DictAt K H l n (· ∈ Dl) (rkF f) := let ⟨kvs, a, b, c, d⟩ := h; ⟨kvs, a, Nat.le_trans b hn, fun k hk => let ⟨v, p, q⟩ := c k hk; ⟨v, _, p, q, rfl⟩⟩
theorem DictX.dk (h : DictX K H l Dl f) : ∃ kvs, H l = some (.dK kvs) := let ⟨kvs, a, _⟩ := h; ⟨kvs, a⟩
end
/-- k in d -/
theorem ev_inX {σ : L2.St} {H : Hp} {ta tb : TE} {l : Addr} {Dl : List Str} {f : Str → Lad} {k : Str} (ha : EvD K ta σ H (.str k)) (hb : Ev tb σ H (.ref l)) (h : DictX K H l Dl f) : Ev (tDIn ta tb) σ H (.bl (decide (k ∈ Dl))) := fun H1 e Q q => ha H1 e _ fun v H2 e2 hv => hb H2 (e.trans e2) _ fun H3 e3 => by
  obtain ⟨kvs, a, _, c, d⟩ := h.ex ((e.trans e2).trans e3)
  have hx := dp_str hv
  subst hx
  refine ⟨l, _, rfl, DGet.k (k := Sum.inr k) a, ?_⟩
  have eb : (valV kvs (Sum.inr k)).isSome = decide (k ∈ Dl) := by
    by_cases hk : k ∈ Dl
    · obtain ⟨v, p, _⟩ := c k hk
      rw [p, decide_eq_true hk]; rfl
    · rw [d k hk, decide_eq_false hk]; rfl
  rw [eb]
  exact q H3 (e2.trans e3)
/-- d[k] = a ladder, k not in d -/
theorem s_dputX {σ : L2.St} {H : Hp} {td ty te : TE} {D : Ends} {l : Addr} {Dl : List Str} {f : Str → Lad} {x : Str} (hd : DictX K H l Dl f) (h : EvD K te σ H (f x).d) (hl : ∀ H1, Ex H H1 → Ev td σ H1 (.ref l)) (hk : ∀ H1, Ex H H1 → EvD K ty σ H1 (.str x)) (hn : Dl.length < 1000)
    (k : ∀ H2, Mut l H H2 → DictX K H2 l (Dl ++ [x]) f → D.nx σ H2) : sDPut td ty te D σ H := h H (Ex.refl H) _ fun v H1 e1 hv => hl H1 e1 H1 (Ex.refl _) _ fun H2 e2 => hk H2 (e1.trans e2) H2 (Ex.refl _) _ fun w H3 e3 hw => by
  obtain ⟨kvs, h1, h2, h3, h4⟩ := hd.ex ((e1.trans e2).trans e3)
  have hx := dp_str hw
  subst hx
  have m : Mut l H3 (upd H3 l (.dK (putK kvs (Sum.inr x) v))) := .upd
  have q := m.qxd h1
  refine ⟨l, _, rfl, DPut.k (k := Sum.inr x) h1 (sz_lt (by omega)), k _ (.exl ((e1.trans e2).trans e3) m) ⟨_, upd_same, ?_, fun y hy => ?_, fun y hy => ?_⟩⟩
  · have := putK_len1 kvs (Sum.inr x) v
    rw [List.length_append, List.length_singleton]
    omega
  · rw [valV_put]
    by_cases e : y = x
    · subst e
      rw [if_pos rfl]
      exact ⟨v, rfl, dp_qx q (dp_ex (e2.trans e3) hv)⟩
    · rw [if_neg (fun h => e (Sum.inr.inj h))]
      obtain ⟨u, a, b⟩ := h3 y ((List.mem_append.mp hy).resolve_right fun h => e (List.mem_singleton.mp h))
      exact ⟨u, a, dp_qx q b⟩
  · rw [valV_put, if_neg (fun h => hy (List.mem_append_right _ (List.mem_singleton.mpr (Sum.inr.inj h))))]
    exact h4 y fun h => hy (List.mem_append_left _ h)
/-- the second of what greatest_rule hands back -/
theorem ed_gr {σ : L2.St} {H : Hp} {i j k : Nat} {x y z : V} {a : Lad} (hx : σ[i]? = some (some x)) (hy : σ[j]? = some (some y)) (hz : σ[k]? = some (some z))
    (h : ∀ H1, Ex H H1 → ∀ Q : VK, (∀ (j : Int) v H2, Ex H1 H2 → Dp K H2 v (.tuple [.int j, a.d]) → Q v H2) → spGR K B [x, y, z] H1 Q E0) : EvD K (tOp (rIxT K) (tCall (spGR K B) [] E0 (tCons (tVar i) (tCons (tVar j) (tCons (tVar k) tNil)))) (tC (.int (1 : Nat)))) σ H a.d := fun H1 e Q q =>
  ⟨x, hx, y, hy, z, hz, h H1 e _ fun j v H2 e2 hv => by
    obtain ⟨p, xs, rfl, hs, ha⟩ := dp_tup hv
    obtain ⟨v1, v2, rfl, h1, h2⟩ := dpa_two ha
    exact ⟨p, _, 1, v2, rfl, rfl, hs, rfl, q v2 H2 e2 h2⟩⟩
theorem succ_height {bk : List Kind} {n : Str} {c : Nat} (hc : c ≤ 7) (h : ∀ k ∈ succ bk n, Ht bk c k) : (∀ k ∈ succ bk n, Ht bk 7 k) ∧ Ht bk (c + 1) n := ⟨fun k hk => (h k hk).mono hc, h⟩
theorem rkOk_of {bk : List Kind} (ok : BookOk bk) {k : Str} (h : Ht bk 8 k) : RkOk (rkO bk k) := ⟨(rkO_ok ok h).parts, (rkO_ok ok h).dep, rkO_ne bk k⟩
def spOR (K : KK) (B : Addr) : Sp := fun vs H Q _ => ∃ b bk, vs = [.ref b] ∧ BookAt K B H b bk ∧ NoEnd bk ∧ ∀ l H2, Ex H H2 → DictAt K H2 l 8 (· ∈ names bk) (rkF (rkO bk)) → (∀ n ∈ names bk, Ht bk 8 n) → Q (.ref l) H2
/-- what holds between the rounds -/
structure OrP (K : KK) (bk : List Kind) (b : Addr) (ve : V) (lr : Addr) (H0 : Hp) (σ : L2.St) (H : Hp) (W Dl : List Str) (vw : V) (x y : Option V) : Prop where
  sl : σ = [some (.ref b), some ve, some vw, some (.ref lr), x, y, none]
  ex : Ex H0 H
  w : Dp K H vw (.list (W.map PyData.str))
  d : DictX K H lr Dl (rkO bk)
  wn : ∀ n ∈ W, n ∈ names bk
  dn : ∀ n ∈ Dl, n ∈ names bk
  all : ∀ n ∈ names bk, n ∈ W ∨ n ∈ Dl
  cnt : W.length + Dl.length ≤ (names bk).length
  ht : ∀ n ∈ Dl, Ht bk Dl.length n
theorem c_own_ranks (T : Txt K mg aO aS B bI) : Cal P w K mg base 36 "own_ranks" (spOR K B) := by
  have c_endless_kinds := c_endless_kinds (P := P) (w := w) (base := base) T
  have m_names := met_names (P := P) (w := w) (base := base) T
  have c_leads := c_leads (P := P) (w := w) (base := base) T
  have c_greatest_rule := c_greatest_rule (P := P) (w := w) (base := base) T
  have sc : FnScope ["book", "endless", "waiting", "ranks", "left", "name", "kind"] ["book"] (defScope (top 52)) := ⟨rfl, rfl, rfl, by decide +kernel, rfl, by decide +kernel, by decide +kernel⟩
  refine calD T.a_own_ranks sc (fun vs H Q E ⟨_, _, e, _⟩ => by rw [e]; rfl) (fun _ _ _ _ _ _ us hl => match us, hl with | [_], _ => rfl) fun f cdv A outer s H vs Q E hr h => ?_
  refine ⟨_, (pss_cons (ps_set (i := 1) sc.nd rfl (Or.inr rfl) (pe_c c_endless_kinds hr (by omega) rfl (pa_cons (pv 0) pa_nil)))
    (pss_cons (ps_setLc (i := 2) rfl sc.nd rfl rfl (sw_true rfl rfl rfl rfl) (show PI _ _ _ (iList K _) from (pi_list (pe_mt0 m_names hr (by omega) (pv 0)))) (blkOk_by (N := ["book", "endless", "waiting", "ranks", "left", "name", "kind"]) (sc := (defScope (top 52))) (own := [("name", 5)]) (by decide +kernel)) (fun _ _ _ _ _ => (pg_name (i := 5) sc.nd rfl (Or.inl rfl))) (fun _ _ _ _ _ => pts_one (pt_cmpR (show OpR _ _ (rIn K true) from op_notIn_seq) (pv 5) (pv 1) (by with_unfolding_all rfl))) (fun _ _ _ _ _ => (pv 5)))
    (pss_cons (ps_set (i := 3) sc.nd rfl (Or.inr rfl) pe_dnewK)
    (pss_cons (ps_while PassesOwn.never (pt_cmpR op_gt (pe_callB (show CallR _ _ (rLenS K) from call_len_seq) rfl T.n_len b_len (pa_cons (pv 2) pa_nil)) pe_int (nomark _))
      (pss_cons (ps_set (i := 4) sc.nd rfl (Or.inl rfl) (pe_lst pa_nil))
      (pss_cons (ps_for PassesOwn.never rfl (show PI _ _ _ (iList K _) from (pi_list (pv 2))) (pg_name (i := 5) sc.nd rfl (Or.inl rfl))
        (pss_one (ps_if (pt_val (pe_callB (show CallR _ _ (rAll K) from (cr_all rfl)) rfl T.n_all b_all (pa_cons (pe_lc (own := [("kind", 6)]) rfl sc.nd (show PI _ _ _ (iList K _) from (pi_list (pe_c c_leads hr (by omega) rfl (pa_cons (pv 0) (pa_cons (pv 5) pa_nil))))) (blkOk_by (N := ["book", "endless", "waiting", "ranks", "left", "name", "kind"]) (sc := (defScope (top 52))) (own := [("kind", 6)]) (by decide +kernel)) (fun _ _ _ _ _ => (pg_name (i := 6) sc.nd rfl (Or.inl rfl))) (fun _ _ _ _ _ => pts_nil) (fun _ _ _ _ _ => (pe_cmp (pc_din (hu_of hr) (pv 6) (pv 3)) (by with_unfolding_all rfl)))) pa_nil))) (pss_one (ps_dput (hu_of hr) (pv 3) (pv 5) (pe_ix (show IxR _ (rIxT K) from ix_tup) (pe_c c_greatest_rule hr (by omega) rfl (pa_cons (pv 0) (pa_cons (pv 3) (pa_cons (pv 5) pa_nil)))) pe_int (fun _ _ => rfl)) rfl)) (pss_one (ps_expr (show PE _ _ (tBM K _ _ _ _) from (pe_bm PySem.F.plainAttrs_list PySem.F.slot_list_append PySem.F.type_list_append mt_append (pv 4) (pa_cons (pv 5) pa_nil))))))))
      (pss_one (ps_set (i := 2) sc.nd rfl (Or.inl rfl) (pv 4))))))
    (pss_one (ps_ret (pv 3))))))), ?_⟩
  obtain ⟨b, bk, rfl, ba, ne, q⟩ := h
  show (_ : TS) _ [some (.ref b), none, none, none, none, none, none] H
  have ok := ba.ok
  have nl := names_len ok
  refine q_asgP (ep_endless (ev_var rfl) ba) fun de ve H1 ⟨S, hS, ede⟩ e1 he => ?_
  have eS := ne S hS
  subst eS
  subst ede
  refine g_name ?_
  show (_ : TS) _ [some (.ref b), some ve, none, none, none, none, none] H1
  refine q_asgD (d := .list (((names bk).filter fun n => !decide (n ∈ ([] : List Str))).map PyData.str)) (ed_lcL (enc := PyData.str) (out := PyData.str) (ls := names bk) (f := fun n => !decide (n ∈ ([] : List Str))) (ef_names (ev_var rfl) (ba.ex e1)).d0 (by omega) (fun _ _ _ => rfl)
    fun x hx v H3 e3 hd R kk => kk [some (.ref b), some ve, none, none, none, some v, none] H3 (Ex.refl _) rfl (et_test (ev_niS (ed_var rfl hd) (ed_var rfl (dp_ex e3 he)))) fun _ => ed_var rfl hd) fun vw H2 e2 hw => ?_
  have ew : ((names bk).filter fun n => !decide (n ∈ ([] : List Str))) = names bk := List.filter_eq_self.mpr fun _ _ => by simp
  rw [ew] at hw
  refine g_name ?_
  show (_ : TS) _ [some (.ref b), some ve, some vw, none, none, none, none] H2
  refine fun lr hlr => ?_
  refine g_name ?_
  have eL : Ex H2 (upd H2 lr (.dK [])) := Ex.new hlr
  have lL : DictX K (upd H2 lr (.dK [])) lr [] (rkO bk) := ⟨[], upd_same, Nat.le_refl _, (fun k hk => nomatch hk), fun k _ => rfl⟩
  revert eL lL
  generalize upd H2 lr (.dK []) = HL
  intro eL lL
  have e12 := e1.trans e2
  have hlr0 : H lr = none := fresh_back e12 hlr
  show (_ : TS) _ [some (.ref b), some ve, some vw, some (.ref lr), none, none, none] HL
  refine q_while (fun m σ' H' => ∃ W Dl vw x y, m = W.length ∧ OrP K bk b ve lr H σ' H' W Dl vw x y) (names bk).length ⟨names bk, [], vw, none, none, rfl, rfl, e12.trans eL, dp_ex eL hw, lL, fun n h => h, fun n h => (nomatch h), fun n h => .inl h, by simp, fun n h => (nomatch h)⟩ ?_
  rintro m σ' H' ⟨W, Dl, vw, x0, y0, rfl, p⟩
  have hsl := p.sl
  subst hsl
  have cnt := p.cnt
  refine ⟨decide (0 < W.length), et_is (et_test (ev_op (ev_lenL (ed_var rfl p.w)) ev_c rv_I0)) (by rw [List.length_map]; exact decide_eq_decide.mpr (by omega)), fun hb H3 e3 => ?_, fun hb H3 e3 => ?_⟩
  · have hpos : 0 < W.length := of_decide_eq_true hb
    refine ⟨fun σ4 H4 => ∃ W' Dl' vw x y, W'.length < W.length ∧ OrP K bk b ve lr H σ4 H4 W' Dl' vw x y, fun σ4 H4 ⟨W', Dl', v, x, y, hlt, p4⟩ => ⟨W'.length, hlt, W', Dl', v, x, y, rfl, p4⟩, ?_⟩
    have hw3 := dp_ex e3 p.w
    have d3 := p.d.ex e3
    have x3 := p.ex.trans e3
    refine q_newL (K := K) fun L HL2 hL eL2 lL2 => ?_
    show (_ : TS) _ [some (.ref b), some ve, some vw, some (.ref lr), some (.ref L), y0, none] HL2
    have hne : lr ≠ L := fun e => by
      obtain ⟨kvs, h⟩ := d3.dk
      rw [e, hL] at h
      cases h
    have hL0 : H L = none := fresh_back x3 hL
    refine s_forLS (H0 := H3) (D := { nx := _, rt := _, bk := _, ct := _ }) (fs := W.map PyData.str) rfl hw3 (fun i σ4 H4 => Qx H3 H4 ∧ Ex H H4 ∧ ∃ Lf Dl' y, σ4 = [some (.ref b), some ve, some vw, some (.ref lr), some (.ref L), y, none] ∧ LstAt K H4 L (Lf.map PyData.str) ∧ DictX K H4 lr Dl' (rkO bk) ∧ (∀ n ∈ Lf, n ∈ W.take i) ∧ (∀ n ∈ Dl', n ∈ names bk) ∧ (∀ n ∈ Dl, n ∈ Dl') ∧ (∀ n ∈ W.take i, n ∈ Lf ∨ n ∈ Dl') ∧ Lf.length + Dl'.length = Dl.length + i ∧ Lf.length ≤ i ∧ (∀ n ∈ Dl', Ht bk Dl'.length n) ∧ (Lf.length = i → Dl' = Dl ∧ ∀ n ∈ W.take i, ∃ k ∈ succ bk n, k ∉ Dl))
        ⟨Ex.qx eL2, x3.trans eL2, [], Dl, y0, rfl, lL2, d3.ex eL2, (fun n h => nomatch h), p.dn, (fun n h => h), (fun n h => by rw [List.take_zero] at h; cases h), by simp, Nat.le_refl _, p.ht, fun _ => ⟨rfl, fun n h => by rw [List.take_zero] at h; cases h⟩⟩ (fun i σ4 H4 pv => pv.1) ?_ ?_
    · rintro i d x σ4 H4 hd hx ⟨q4, ex4, Lf, Dl', y, rfl, l4, d4, b1, b2, b3, b4, b5, b8, b6, b7⟩
      obtain ⟨n, hni, rfl⟩ := map_get hd
      have hnW := List.mem_of_getElem? hni
      have hn := p.wn n hnW
      have hi : i < W.length := (List.getElem?_eq_some_iff.mp hni).1
      have hxv := dp_str hx
      subst hxv
      refine g_name ?_
      show (_ : TS) _ [some (.ref b), some ve, some vw, some (.ref lr), some (.ref L), some (.str n), none] H4
      have ba4 := ba.ex ex4
      have hC := ep_lcL (K := K) (σ := [some (.ref b), some ve, some vw, some (.ref lr), some (.ref L), some (.str n), none]) (H := H4) (te := tDIn (tVar 6) (tVar 3)) (t := tYes) (g := gName 6) (vs := [6]) (enc := PyData.str) (out := fun k => .bool (decide (k ∈ Dl'))) (Good := LeadsOk bk n) (f := fun _ => true) (ep_leads (ev_var (i := 0) rfl) ba4 (ed_var (i := 5) rfl (.str n)) hn) (fun ls g => by have := g.2; omega) (fun _ _ _ _ _ => rfl)
        (fun ls g k hk vk H8 e8 hd8 R k8 => k8 [some (.ref b), some ve, some vw, some (.ref lr), some (.ref L), some (.str n), some vk] H8 (Ex.refl _) rfl et_yes fun _ => ed_bl (ev_inX (ed_var rfl hd8) (ev_var rfl) (d4.ex e8)))
      have snoc : ∀ z, z ∈ W.take (i + 1) ↔ z ∈ W.take i ∨ z = n := fun z => by rw [take_snoc hni, List.mem_append, List.mem_singleton]
      refine s_ifD (b := (succ bk n).all fun k => decide (k ∈ Dl')) (et_B (ev_allP hC fun d ⟨ls, g, ed⟩ => ⟨ls.map fun k => decide (k ∈ Dl'), by rw [ed, filter_all, List.map_map]; rfl, by rw [all_id]; exact all_same g.1⟩)) (fun hall H5 e5 => ?_) fun hall H5 e5 => ?_
      · have hs : ∀ k ∈ succ bk n, k ∈ Dl' := fun k hk => of_decide_eq_true (List.all_eq_true.mp hall k hk)
        have hc7 : Dl'.length ≤ 7 := by omega
        obtain ⟨s1, s2⟩ := succ_height hc7 fun k hk => b6 k (hs k hk)
        have d5 := d4.ex e5
        refine s_dputX (f := rkO bk) d5 (by
          rw [← rkO_best s1]
          exact ed_gr rfl rfl rfl fun H6 e6 Q2 q2 => ⟨b, lr, .str n, bk, rkO bk, n, rfl, ba4.ex (e5.trans e6), ((d5.ex e6).at_ (by omega)).sub hs, .str n, hn, fun k hk => rkOk_of ok ((b6 k (hs k hk)).mono (by omega)), q2⟩) (fun _ _ => ev_var rfl) (fun _ _ => ed_var rfl (.str n)) (by omega) fun H6 m6 d6 => ?_
        obtain ⟨kvs5, hk5⟩ := d5.dk
        refine ⟨q4.trans ((Ex.qx e5).trans (m6.qxd hk5)), m6.base hlr0 (ex4.trans e5), Lf, Dl' ++ [n], some (.str n), rfl, (l4.ex e5).other m6 (m6.txd hk5) (Ne.symm hne) (noLs_map fun _ => rfl), d6, fun z hz => (snoc z).mpr (.inl (b1 z hz)), fun z hz => ?_, fun z hz => List.mem_append_left _ (b3 z hz), fun z hz => ?_, ?_, ?_, fun z hz => ?_, fun hl => ?_⟩
        · rcases List.mem_append.mp hz with hz | hz
          · exact b2 z hz
          · rw [List.mem_singleton.mp hz]; exact hn
        · rcases (snoc z).mp hz with hz | rfl
          · exact (b4 z hz).imp id fun h => List.mem_append_left _ h
          · exact .inr (List.mem_append_right _ (List.mem_singleton.mpr rfl))
        · rw [List.length_append, List.length_singleton]; omega
        · omega
        · rw [List.length_append, List.length_singleton]
          rcases List.mem_append.mp hz with hz | hz
          · exact (b6 z hz).up
          · rw [List.mem_singleton.mp hz]; exact s2
        · omega
      · have hex : ∃ k ∈ succ bk n, k ∉ Dl' := by
          by_cases h : ∃ k ∈ succ bk n, k ∉ Dl'
          · exact h
          · exfalso
            have : (succ bk n).all (fun k => decide (k ∈ Dl')) = true := List.all_eq_true.mpr fun k hk => decide_eq_true (by
              by_cases h' : k ∈ Dl'
              · exact h'
              · exact absurd ⟨k, hk, h'⟩ h)
            rw [this] at hall
            cases hall
        have lfl : Lf.length ≤ 100 := by omega
        refine s_appD (d := .str n) (l4.ex e5) (noLs_map fun _ => rfl) rfl (fun _ _ => ev_var rfl) (ed_var rfl (.str n)) (by rw [List.length_map]; omega) fun H6 m6 l6 => ?_
        have t6 := (l4.ex e5).tx m6
        have q6 : Qx H3 H6 := ⟨fun a xs r => by
          have r5 := (q4.trans (Ex.qx e5)).1 a xs r
          have na : a ≠ L := fun e => by
            rw [e] at r
            rcases r with r | ⟨ob, r⟩ <;> (rw [hL] at r; cases r)
          rcases r5 with r5 | ⟨ob, r5⟩
          · exact .inl (m6 a _ na r5)
          · exact .inr ⟨ob, m6 a _ na r5⟩, (q4.trans (Ex.qx e5)).2.trans t6⟩
        refine ⟨q6, m6.base hL0 (ex4.trans e5), Lf ++ [n], Dl', some (.str n), rfl, by rw [List.map_append]; exact l6, (d4.ex e5).other m6 t6 hne, fun z hz => ?_, b2, b3, fun z hz => ?_, ?_, ?_, b6, fun hl => ?_⟩
        · rcases List.mem_append.mp hz with hz | hz
          · exact (snoc z).mpr (.inl (b1 z hz))
          · exact (snoc z).mpr (.inr (List.mem_singleton.mp hz))
        · rcases (snoc z).mp hz with hz | rfl
          · exact (b4 z hz).imp (fun h => List.mem_append_left _ h) id
          · exact .inl (List.mem_append_right _ (List.mem_singleton.mpr rfl))
        · rw [List.length_append, List.length_singleton]; omega
        · rw [List.length_append, List.length_singleton]; omega
        · rw [List.length_append, List.length_singleton] at hl
          obtain ⟨c1, c2⟩ := b7 (by omega)
          refine ⟨c1, fun z hz => ?_⟩
          rcases (snoc z).mp hz with hz | rfl
          · exact c2 z hz
          · rw [c1] at hex; exact hex
    · rintro σ4 H4 ⟨q4, ex4, Lf, Dl', y, rfl, l4, d4, b1, b2, b3, b4, b5, b8, b6, b7⟩
      rw [List.length_map, List.take_length] at b1 b4 b7
      rw [List.length_map] at b5 b8
      have hlt : Lf.length < W.length := by
        rcases Nat.lt_or_ge Lf.length W.length with h | h
        · exact h
        · exfalso
          obtain ⟨c1, c2⟩ := b7 (by omega)
          have hcl : ∀ n, n ∈ W → n ∈ names bk ∧ ∃ k ∈ succ bk n, k ∈ W := fun n hn => by
            obtain ⟨k, hk, hkd⟩ := c2 n hn
            exact ⟨p.wn n hn, k, hk, (p.all k (ok.succ hk)).resolve_right hkd⟩
          cases W with
          | nil => simp at hpos
          | cons a r => exact absurd (hS.max (· ∈ a :: r) hcl a List.mem_cons_self) (by simp)
      refine s_asg (ev_var rfl) fun H5 e5 => ⟨Lf, Dl', .ref L, _, _, hlt, rfl, ex4.trans e5, (l4.ex e5).dp, d4.ex e5, fun n hn => p.wn n (b1 n hn), b2, fun n hn => ?_, by omega, b6⟩
      rcases p.all n hn with h | h
      · exact b4 n h
      · exact .inr (b3 n h)
  · have hz : W.length = 0 := by have := of_decide_eq_false hb; omega
    have hw0 : W = [] := List.length_eq_zero_iff.mp hz
    subst hw0
    have hall : ∀ n ∈ names bk, n ∈ Dl := fun n hn => (p.all n hn).resolve_left (fun h => nomatch h)
    have hl8 : Dl.length ≤ 8 := by have := p.cnt; simp at this; omega
    refine s_ret (ev_var rfl) fun H4 e4 => q lr H4 ((p.ex.trans e3).trans e4) (((p.d.ex (e3.trans e4)).at_ hl8).sub hall) fun n hn => (p.ht n (hall n hn)).mono hl8
end
end Fell

/-! FP8 -/
set_option Elab.async false
set_option linter.all false
set_option maxRecDepth 100000
set_option maxHeartbeats 4000000
/-! own_rank; the sort that a book needs, where nothing is endless. -/
namespace Fell
open PySem PySem.Spec PyProof.Rows L2 Evl
section
variable {P : Program} {w : World} {K : KK} {mg : Str → Option Value} {base : Heap} {aO aS B bI : Addr}
/-- own_ranks(book), looked at -/
theorem or_call {σ : L2.St} {H : Hp} {b : Addr} {bk : List Kind} {i : Nat} (hb : σ[i]? = some (some (.ref b))) (ba : BookAt K B H b bk) (ne : NoEnd bk) : ∀ H1, Ex H H1 → ∀ Q : VK, (∀ l H2, Ex H1 H2 → DictAt K H2 l 8 (· ∈ names bk) (rkF (rkO bk)) → (∀ n ∈ names bk, Ht bk 8 n) → Q (.ref l) H2) → tCall (spOR K B) [] E0 (tCons (tVar i) tNil) σ H1 Q :=
  fun H1 e Q q => ⟨_, hb, b, bk, rfl, ba.ex e, ne, q⟩
def PostOwn (bk : List Kind) (ds : List PyData) (d : PyData) : Prop := (∀ n ∈ names bk, Ht bk 8 n) ∧ ∀ n, ds = [.str n] → d = (rkO bk n).d
abbrev spOwn (K : KK) (B : Addr) : Sp := spB K B (fun bk ds => NoEnd bk ∧ PreN bk ds) PostOwn
theorem c_own_rank (T : Txt K mg aO aS B bI) : Cal P w K mg base 37 "own_rank" (spOwn K B) := by
  have c_look_at_kind := c_look_at_kind (P := P) (w := w) (base := base) T
  have c_look_at_ends := c_look_at_ends (P := P) (w := w) (base := base) T
  have c_own_ranks := c_own_ranks (P := P) (w := w) (base := base) T
  have sc : FnScope ["book", "name"] ["book", "name"] (defScope (top 53)) := ⟨rfl, rfl, rfl, by decide +kernel, rfl, by decide +kernel, by decide +kernel⟩
  refine calD T.a_own_rank sc (spB_len fun bk ds ⟨_, n, _, e⟩ => by rw [e]; rfl) (fun _ _ _ _ _ _ us hl => match us, hl with | [_, _], _ => rfl) fun f cdv A outer s H vs Q E hr h => ?_
  refine ⟨_, (pss_cons (ps_expr (pe_c c_look_at_kind hr (by omega) rfl (pa_cons (pv 0) (pa_cons (pv 1) pa_nil))))
    (pss_cons (ps_expr (pe_c c_look_at_ends hr (by omega) rfl (pa_cons (pv 0) (pa_cons (pe_tup (pa_cons (pe_tup (pa_cons (pe_tup (pa_cons (pv 1) (pa_cons (pe_tup pa_nil) pa_nil))) (pa_cons pe_int pa_nil))) pa_nil)) pa_nil))))
    (pss_one (ps_ret (pe_dget (hu_of hr) (pe_c c_own_ranks hr (by omega) rfl (pa_cons (pv 0) pa_nil)) (pv 1) (fun _ _ => rfl)))))), ?_⟩
  obtain ⟨b, vs', bk, ds, rfl, ba, ⟨ne, n, hn, rfl⟩, hv, q⟩ := h
  obtain ⟨vn, rfl, h1⟩ := dpa_one hv
  have hx := dp_str h1
  subst hx
  show (_ : TS) _ [some (.ref b), some (.str n)] H
  refine q_dropD (K := K) (d := .none) ((ep_call (ev_var rfl) ba (eda_1 (ed_var rfl h1)) ⟨n, hn, rfl⟩).toD fun d e => e) fun H1 e1 => ?_
  refine q_dropD (K := K) (d := .none) ((ep_call (ds := [Grv.d (.cons n .nil 1 .nil)]) (ev_var rfl) (ba.ex e1) (eda_1 (ed_tup (eda_1 (ed_tup (eda_2 (d := Grv.trD (n, .nil)) (d' := .int 1) (ed_tup (eda_2 (ed_var rfl (.str n)) ed_nilT) sz2) (ed_int ev_c)) sz2)) sz1)) ⟨ne, n, rfl⟩).toD fun d e => e) fun H2 e2 => ?_
  have e12 := e1.trans e2
  refine or_call (i := 0) rfl (ba.ex e12) ne H2 (Ex.refl _) _ fun l H3 e3 hd ht => ?_
  obtain ⟨kvs, a1, a2, a3⟩ := hd
  obtain ⟨u, d, p1, p2, p3⟩ := a3 n hn
  have p3 : d = (rkO bk n).d := p3
  subst p3
  refine ⟨_, rfl, l, u, rfl, ?_, q _ u H3 ⟨ht, fun m em => by cases em; rfl⟩ (e12.trans e3) p2⟩
  have g := DGet.k (k := Sum.inr n) a1
  rw [p1] at g
  exact g
/-- what sort_needed tells -/
def PostSort (bk : List Kind) (_ : List PyData) (d : PyData) : Prop := (∀ n ∈ names bk, Ht bk 8 n) ∧ ∃ m nm, m < 4 ∧ IsTop (names bk) (fun n => sIx (rkO bk n).sortOf) m nm ∧ d = .tuple [.str (sorts.getD m ""), .str nm]
abbrev spSortN (K : KK) (B : Addr) : Sp := spB K B (fun bk ds => NoEnd bk ∧ ds = []) PostSort
theorem sorts_at {m : Nat} (h : m < 4) : sorts[m]? = some (sorts.getD m "") := by
  match m, h with
  | 0, _ => rfl
  | 1, _ => rfl
  | 2, _ => rfl
  | 3, _ => rfl
theorem dK (T : Txt K mg aO aS B bI) (H : Hp) : Dp K H (.ref aS) (.tuple (sorts.map PyData.str)) := .tup (T.d_SORTS H) (dpa_strs _)
theorem c_sort_needed (T : Txt K mg aO aS B bI) : Cal P w K mg base 37 "sort_needed" (spSortN K B) := by
  have c_endless_kinds := c_endless_kinds (P := P) (w := w) (base := base) T
  have c_own_ranks := c_own_ranks (P := P) (w := w) (base := base) T
  have m_names := met_names (P := P) (w := w) (base := base) T
  have c_sort_of := c_sort_of (P := P) (w := w) (base := base) T 25
  have sc : FnScope ["book", "endless", "told", "needed", "first", "name", "place"] ["book"] (defScope (top 58)) := ⟨rfl, rfl, rfl, by decide +kernel, rfl, by decide +kernel, by decide +kernel⟩
  refine calD T.a_sort_needed sc (spB_len (n := 0) fun bk ds ⟨_, e⟩ => by rw [e]; rfl) (fun _ _ _ _ _ _ us hl => match us, hl with | [_], _ => rfl) fun f cdv A outer s H vs Q E hr h => ?_
  refine ⟨_, (pss_cons (ps_set (i := 1) sc.nd rfl (Or.inl rfl) (pe_c c_endless_kinds hr (by omega) rfl (pa_cons (pv 0) pa_nil)))
    (pss_cons (ps_if (pt_cmpR (show OpR _ _ (rNeD K) from (op_neD hr.units)) (pv 1) (pe_lst pa_nil) (nomark _)) (pss_one ps_never) pss_nil)
    (pss_cons (ps_set (i := 2) sc.nd rfl (Or.inl rfl) (pe_c c_own_ranks hr (by omega) rfl (pa_cons (pv 0) pa_nil)))
    (pss_cons (ps_set (i := 3) sc.nd rfl (Or.inl rfl) (pe_un un_neg pe_int))
    (pss_cons (ps_set (i := 4) sc.nd rfl (Or.inl rfl) pe_non)
    (pss_cons (ps_for PassesOwn.never rfl (show PI _ _ _ (iList K _) from (pi_list (pe_mt0 m_names hr (by omega) (pv 0)))) (pg_name (i := 5) sc.nd rfl (Or.inl rfl))
      (pss_cons (ps_set (i := 6) sc.nd rfl (Or.inl rfl) (pe_bm PySem.F.plainAttrs_tuple PySem.F.slot_tuple_index PySem.F.type_tuple_index mt_tup_index (pe_gc rfl T.g_SORTS) (pa_cons (pe_c c_sort_of hr (by omega) rfl (pa_cons (pe_dget (hu_of hr) (pv 2) (pv 5) (fun _ _ => rfl)) pa_nil)) pa_nil)))
      (pss_one (ps_if (pt_cmpR op_gt (pv 6) (pv 3) (nomark _)) (pss_cons (ps_set (i := 3) sc.nd rfl (Or.inl rfl) (pv 6))
        (pss_one (ps_set (i := 4) sc.nd rfl (Or.inl rfl) (pv 5)))) pss_nil))))
    (pss_one (ps_ret (pe_tup (pa_cons (pe_ix (show IxR _ (rIxT K) from ix_tup) (pe_gc rfl T.g_SORTS) (pv 3) (fun _ _ => rfl)) (pa_cons (pv 4) pa_nil))))))))))), ?_⟩
  obtain ⟨b, vs', bk, ds, rfl, ba, ⟨ne, rfl⟩, hv, q⟩ := h
  cases hv
  show (_ : TS) _ [some (.ref b), none, none, none, none, none, none] H
  have ok := ba.ok
  refine q_asgD (ed_noEnd (ev_var rfl) ba ne) fun ve H1 e1 he => ?_
  refine g_name ?_
  show (_ : TS) _ [some (.ref b), some ve, none, none, none, none, none] H1
  refine q_when (et_test (ev_neD (d := .list (([] : List Str).map PyData.str)) (d' := .list []) (ed_var rfl he) ed_nilL shaped_nilL shaped_nilL)) (fun hb => by simp [eqv_nilL] at hb) fun _ H2 e2 => ?_
  refine or_call (i := 0) rfl (ba.ex (e1.trans e2)) ne H2 (Ex.refl _) _ fun l H3 e3 hd ht => ?_
  refine g_name ?_
  show (_ : TS) _ [some (.ref b), some ve, some (.ref l), none, none, none, none] H3
  have e123 := (e1.trans e2).trans e3
  refine q_asg (ev_un ev_c ru_neg) fun H4 e4 => ?_
  show (_ : TS) _ [some (.ref b), some ve, some (.ref l), some (.int (-1)), none, none, none] H4
  refine q_asg ev_c fun H5 e5 => ?_
  show (_ : TS) _ [some (.ref b), some ve, some (.ref l), some (.int (-1)), some .non, none, none] H5
  have e35 := e4.trans e5
  let pl : Str → Nat := fun n => sIx (rkO bk n).sortOf
  refine s_forLF (K := K) (D := { nx := _, rt := _, bk := _, ct := _ }) (ef_names (ev_var rfl) (ba.ex (e123.trans e35))) (noLs_map fun _ => rfl) (fun p H6 i σ' H' => Ex H6 H' ∧ ∃ (z : Int) (fv : V) (x y : Option V), σ' = [some (.ref b), some ve, some (.ref l), some (.int z), some fv, x, y] ∧ ((i = 0 ∧ z = -1) ∨ ∃ m nm, z = (m : Nat) ∧ fv = .str nm ∧ m < 4 ∧ IsTop ((names bk).take i) pl m nm))
    (fun p H6 hp e6 lp => ⟨Ex.refl _, -1, .non, none, none, rfl, .inl ⟨rfl, rfl⟩⟩) (fun p H6 hp e6 lp i σ' H' pv => ⟨by obtain ⟨xs, hx, _⟩ := lp; rw [hx]; exact pv.1 _ _ hx, tx_ex pv.1⟩) ?_ ?_
  · rintro p H6 hp e6 lp i d x σ' H' hdd hx ⟨e7, z, fv, x0, y0, rfl, hz⟩
    obtain ⟨n, hni, rfl⟩ := map_get hdd
    have hn := List.mem_of_getElem? hni
    have hxv := dp_str hx
    subst hxv
    refine g_name ?_
    show (_ : TS) _ [some (.ref b), some ve, some (.ref l), some (.int z), some fv, some (.str n), y0] H'
    have eD : Ex H3 H' := (e35.trans e6).trans e7
    have hn8 := ht n hn
    have lo := rkO_ok ok hn8
    have lp1 : (rkO bk n).parts ≤ 1021 := lo.parts
    have lp2 : (rkO bk n).dep ≤ 17 := lo.dep
    have es : EvD K _ _ H' (.str (rkO bk n).sortOf) := ed_call (E := E0) (sp := spR K (RSort 25)) (σ := [some (.ref b), some ve, some (.ref l), some (.int z), some fv, some (.str n), y0]) (ta := tCons (tDGet (tVar 2) (tVar 5)) tNil) (eda_1 (d := (rkO bk n).d) ((kv_get (x := n) (ev_var rfl) (ed_var rfl (.str n)) (hd.ex eD) hn).toD fun d e => e)) (spd_of ⟨_, ⟨by omega, by omega⟩, ⟨by decide, by decide⟩, rfl, rfl⟩)
    obtain ⟨s1, s2⟩ := sIx_at (rkO bk n)
    refine q_asg (v := .int (pl n : Nat)) (fun H7 e8 Q2 q2 => ⟨.inr (.inl ⟨rfl, T.t_SORTS⟩), es H7 e8 _ fun v H8 e9 hv => ?_⟩) fun H7 e8 => ?_
    · rw [dp_str hv]
      exact ⟨aS, sorts, _, pl n, rfl, rfl, T.d_SORTS _, s1, s2, q2 H8 e9⟩
    show (_ : TS) _ [some (.ref b), some ve, some (.ref l), some (.int z), some fv, some (.str n), some (.int (pl n : Nat))] H7
    have hp4 : pl n < 4 := sIx_le _
    refine s_when (b := decide (z < (pl n : Int))) (et_test (ev_op (ev_var rfl) (ev_var rfl) rv_I0)) (fun hb H8 e9 => ?_) fun hb H8 e9 => ?_
    · have hlt : z < (pl n : Int) := of_decide_eq_true hb
      refine q_asg (ev_var rfl) fun H9 e10 => ?_
      show (_ : TS) _ [some (.ref b), some ve, some (.ref l), some (.int (pl n : Nat)), some fv, some (.str n), some (.int (pl n : Nat))] H9
      refine s_asg (ev_var rfl) fun H10 e11 => ⟨(((e7.trans e8).trans e9).trans e10).trans e11, _, _, _, _, rfl, .inr ⟨pl n, n, rfl, rfl, hp4, ?_⟩⟩
      rw [take_snoc hni]
      rcases hz with ⟨hi, _⟩ | ⟨m, nm, rfl, rfl, hm, top⟩
      · subst hi
        exact IsTop.one
      · exact top.new (by omega)
    · have hge : ¬ z < (pl n : Int) := of_decide_eq_false hb
      refine ⟨(e7.trans e8).trans e9, z, fv, _, _, rfl, .inr ?_⟩
      rcases hz with ⟨_, hz⟩ | ⟨m, nm, rfl, rfl, hm, top⟩
      · omega
      · refine ⟨m, nm, rfl, rfl, hm, ?_⟩
        rw [take_snoc hni]
        exact top.keep (by omega)
  · rintro p H6 hp e6 lp σ' H' ⟨e7, z, fv, x0, y0, rfl, hz⟩
    rw [List.length_map, List.take_length] at hz
    have hne : (names bk).length ≠ 0 := fun e => ok.pos (by
      have := List.length_eq_zero_iff.mp e
      exact List.map_eq_nil_iff.mp this)
    obtain ⟨m, nm, rfl, rfl, hm, top⟩ := hz.resolve_left fun h => hne h.1
    refine s_retD (ed_tup (eda_2 (d := .str (sorts.getD m "")) (d' := .str nm) (ed_ixT (ds := sorts.map PyData.str) (ed_ev ev_c (dK T)) (ed_int (ev_var rfl)) (atI_n (by rw [List.getElem?_map, sorts_at hm]; rfl))) (ed_var rfl (.str nm))) sz2) fun v H7 e8 hv => q _ v H7 ⟨ht, m, nm, hm, top, rfl⟩ (((e123.trans e35).trans (e6.trans e7)).trans e8) hv
end
end Fell

/-! FL7 -/
set_option Elab.async false
set_option linter.all false
set_option maxRecDepth 100000
set_option maxHeartbeats 4000000
/-! isinstance; comprehensions over texts; names. -/
namespace Fell
open PySem PySem.Spec PyProof.Rows L2 Evl
section
variable {K : KK} {σ : L2.St} {H H' : Hp} {ta tb te tl : TE} {t : TT} {g : TG} {ds : List PyData} {d : PyData}
theorem tyx_t {a : Addr} {xs : List V} (h : SqT K H a xs) : TyX K H (.ref a) (.type "tuple") := by
  rcases h with (h | ⟨o, h⟩) | ⟨o, its, n, h, c, _⟩
  · exact .base (.tup h)
  · exact .fTuple h
  · exact .kTuple h c
theorem tyx_l {a : Addr} {xs : List V} (h : SqL K H a xs) : TyX K H (.ref a) (.type "list") := by
  rcases h with (h | ⟨o, h⟩) | ⟨o, its, n, h, c, _⟩
  · exact .base (.lst h)
  · exact .base (.frz h)
  · exact .kList h c
/-- isinstance(x, T), by the datum -/
theorem ev_isi {T : String} {b : Bool} (h : EvD K ta σ H d) (hT : ∀ H1 v, Dp K H1 v d → ∃ t, TyX K H1 v t ∧ PySem.W.kitOne K t (.type T) = some b) : Ev (tCB (rIsi K) (tCons ta (tCons (tC (.ty T)) tNil))) σ H (.bl b) := fun H1 e Q q =>
  h H1 e _ fun v H2 e2 hv => by
    obtain ⟨t, h1, h2⟩ := hT H2 v hv
    exact ⟨v, .ty T, t, .type T, b, rfl, .ty T, h1, h2, q H2 e2⟩
theorem isi_tup (h : EvD K ta σ H (.tuple ds)) : Ev (tCB (rIsi K) (tCons ta (tCons (tC (.ty "tuple")) tNil))) σ H (.bl true) := ev_isi h fun H1 v hv => by
  obtain ⟨a, xs, rfl, hs, _⟩ := dp_tup hv
  exact ⟨_, tyx_t hs, kit_ty (by decide +kernel)⟩
theorem isi_lst (h : EvD K ta σ H (.list ds)) : Ev (tCB (rIsi K) (tCons ta (tCons (tC (.ty "list")) tNil))) σ H (.bl true) := ev_isi h fun H1 v hv => by
  obtain ⟨a, xs, rfl, hs, _⟩ := dp_lst hv
  exact ⟨_, tyx_l hs, kit_ty (by decide +kernel)⟩
theorem isi_str {x : Str} (h : EvD K ta σ H (.str x)) : Ev (tCB (rIsi K) (tCons ta (tCons (tC (.ty "str")) tNil))) σ H (.bl true) := ev_isi h fun H1 v hv => by
  rw [dp_str hv]
  exact ⟨_, .base (.str x), kit_ty (by decide +kernel)⟩
theorem isi_int {x : Int} (h : EvD K ta σ H (.int x)) : Ev (tCB (rIsi K) (tCons ta (tCons (tC (.ty "int")) tNil))) σ H (.bl true) := ev_isi h fun H1 v hv => by
  rw [dp_int hv]
  exact ⟨_, .base (.int x), kit_ty (by decide +kernel)⟩
theorem isi_intB {x : Int} (h : EvD K ta σ H (.int x)) : Ev (tCB (rIsi K) (tCons ta (tCons (tC (.ty "bool")) tNil))) σ H (.bl false) := ev_isi h fun H1 v hv => by
  rw [dp_int hv]
  exact ⟨_, .base (.int x), kit_ty (by decide +kernel)⟩
theorem isi_bool {x : Bool} (h : EvD K ta σ H (.bool x)) : Ev (tCB (rIsi K) (tCons ta (tCons (tC (.ty "bool")) tNil))) σ H (.bl true) := ev_isi h fun H1 v hv => by
  rw [dp_bl hv]
  exact ⟨_, .base (.bl x), kit_ty (by decide +kernel)⟩
/-- over the signs of a text -/
theorem ed_lcStr {out : Nat → PyData} {f : Nat → Bool} {x : Str} {vs : List Nat} (h : EvD K tl σ H (.str x)) (hz : x.cps.toList.length ≤ 40000) (ho : ∀ c ∈ x.cps.toList, f c = true → noL (out c) = true)
    (hb : ∀ c ∈ x.cps.toList, ∀ H1, Ex H H1 → ∀ R : L2.St → Hp → Prop, (∀ σ2 H2, Ex H1 H2 → wipe σ2 vs = wipe σ vs → EvT t σ2 H2 (f c) → (f c = true → EvD K te σ2 H2 (out c)) → R σ2 H2) → g (.str ⟨#[c]⟩) (wipe σ vs) H1 R) :
    EvD K (tLc (iStr tl) g t te vs) σ H (.list ((x.cps.toList.filter f).map out)) := fun H0 e Q q => h H0 e _ fun v H1 e1 hv => by
  have hx := dp_str hv
  subst hx
  refine ⟨x, rfl, fun Dl hD => ?_⟩
  have hs : x.cps.size = x.cps.toList.length := rfl
  refine ⟨fun i m H' => m = x.cps.size - i ∧ i ≤ x.cps.size ∧ (H1 Dl = none ∧ Ex H1 H' ∧ ∃ acc, H' Dl = some (.lst acc) ∧ DpAll K H' acc (((x.cps.toList.take i).filter f).map out)), ⟨_, rfl, Nat.zero_le _, hD, Ex.new hD, [], upd_same, .nil⟩, ?_⟩
  rintro i m H2 ⟨rfl, hi, p1, p2, acc, p3, p4⟩
  by_cases hlt : i < x.cps.size
  · refine .inr ⟨hlt, fun H' => H1 Dl = none ∧ Ex H1 H' ∧ ∃ acc, H' Dl = some (.lst acc) ∧ DpAll K H' acc (((x.cps.toList.take (i + 1)).filter f).map out), fun H' p' => ⟨x.cps.size - (i + 1), by omega, rfl, hlt, p'⟩, fun v' H' y => ?_⟩
    obtain ⟨rfl, c, hc, rfl⟩ := y
    have hc' : x.cps.toList[i]? = some c := by rw [Array.getElem?_toList]; exact hc
    exact lc_turnD (f := f) (enc := fun c => .str ⟨#[c]⟩) ho hz (fun R k => hb c (List.mem_of_getElem? hc') _ ((e.trans e1).trans p2) R fun σ2 H3 e3 w a b => k σ2 H3 e3 w a b) hc' p1 p2 p3 p4
  · have ei : i = x.cps.toList.length := by omega
    rw [ei, List.take_length] at p4
    exact .inl ⟨by show x.cps.size ≤ i; omega, q _ H2 (e1.trans p2) (.lst (sq_of p3) p4)⟩
end
def letters : Str := "abcdefghijklmnopqrstuvwxyz"
/-- a name -/
structure NameOk (n : Str) : Prop where
  pos : 1 ≤ n.cps.toList.length
  few : n.cps.toList.length ≤ 8
  sg : ∀ c ∈ n.cps.toList, c ∈ letters.cps.toList
theorem NameOk.str {n : Str} (h : NameOk n) : okS n := by
  have : ∀ c ∈ letters.cps.toList, c < 1114112 := by decide
  show PyData.strOk n = true
  unfold PyData.strOk
  rw [← Array.all_toList, List.all_eq_true]
  intro c hc
  have := this c (h.sg c hc)
  simp
  omega
end Fell

/-! FP9 -/
set_option Elab.async false
set_option linter.all false
set_option maxRecDepth 100000
set_option maxHeartbeats 4000000
/-! What a book is made of: looks at names, groves, rules. -/
namespace Fell
open PySem PySem.Spec PyProof.Rows L2 Evl
section
variable {P : Program} {w : World} {K : KK} {mg : Str → Option Value} {base : Heap} {aO aS B bI : Addr}
def RName (ds : List PyData) (d : PyData) : Prop := ∃ n, NameOk n ∧ ds = [.str n] ∧ d = .bool true
theorem ev_lenS {σ : L2.St} {H : Hp} {ta : TE} {x : Str} (h : EvD K ta σ H (.str x)) (hl : x.cps.toList.length ≤ 100000) : Ev (tCB (fun xs H Q => ∃ z : Str, xs = [.str z] ∧ z.length ≤ sizeLine ∧ Q (.int z.length) H) (tCons ta tNil)) σ H (.int (x.cps.toList.length : Int)) := fun H1 e Q q =>
  h H1 e _ fun v H2 e2 hv => by
    rw [dp_str hv]
    exact ⟨x, rfl, sz_of hl, q H2 e2⟩
theorem all_true {α : Type} (l : List α) : (l.map fun _ => PyData.bool true) = (l.map fun _ => true).map PyData.bool := by rw [List.map_map]; rfl
theorem c_is_name (T : Txt K mg aO aS B bI) : Cal P w K mg base 1 "is_name" (spR K RName) := by
  have sc : FnScope ["thing", "sign"] ["thing"] (defScope (top 29)) := ⟨rfl, rfl, rfl, by decide +kernel, rfl, by decide +kernel, by decide +kernel⟩
  refine calD T.a_is_name sc (spR_len fun ds d ⟨_, _, e, _⟩ => by rw [e]; rfl) (fun _ _ _ _ _ _ us hl => match us, hl with | [_], _ => rfl) fun f cdv A outer s H vs Q E hr h => ?_
  refine ⟨_, (pss_cons (ps_if (pt_bool (pw_or (pt_not (pt_val (pe_callB call_isi rfl T.n_isinstance b_isinstance (pa_cons (pv 0) (pa_cons (pe_bltn (v := .ty "str") rfl T.n_str b_str rfl) pa_nil))))) (pw_or (pt_cmpR op_lt (pe_callB call_len_str rfl T.n_len b_len (pa_cons (pv 0) pa_nil)) pe_int (nomark _)) (pw_or1 (pt_cmpR op_gt (pe_callB call_len_str rfl T.n_len b_len (pa_cons (pv 0) pa_nil)) (pe_gc rfl T.g_MOST_LETTERS) (nomark _)))))) (pss_one (ps_ret pe_bl)) pss_nil)
    (pss_one (ps_ret (pe_callB (show CallR _ _ (rAll K) from (cr_all rfl)) rfl T.n_all b_all (pa_cons (pe_lc (own := [("sign", 1)]) rfl sc.nd (pi_str (pv 0)) (blkOk_by (N := ["thing", "sign"]) (sc := (defScope (top 29))) (own := [("sign", 1)]) (by decide +kernel)) (fun _ _ _ _ _ => (pg_name (i := 1) sc.nd rfl (Or.inl rfl))) (fun _ _ _ _ _ => pts_nil) (fun _ _ _ _ _ => (pe_cmpR op_in_sign (pv 1) (pe_gc rfl T.g_LETTERS) (by with_unfolding_all rfl)))) pa_nil))))), ?_⟩
  obtain ⟨ds, d, ⟨n, hn, rfl, rfl⟩, hv, q⟩ := h
  obtain ⟨vn, rfl, h1⟩ := dpa_one hv
  have hx := dp_str h1
  subst hx
  show (_ : TS) _ [some (.str n), none] H
  have h1 := hn.pos
  have h2 := hn.few
  refine q_when (b := false) (et_is (et_or (et_not (et_B (isi_str (ed_var rfl (.str n))))) fun _ => et_or (et_test (ev_op (ev_lenS (K := K) (ed_var rfl (.str n)) (by omega)) ev_c rv_I0)) fun _ => et_test (ev_op (ev_lenS (K := K) (ed_var rfl (.str n)) (by omega)) ev_c rv_I0)) ?_) (fun hb => by cases hb) fun _ H1 e1 => ?_
  · have a1 : decide ((n.cps.toList.length : Int) < 1) = false := decide_eq_false (by omega)
    have a2 : decide ((8 : Int) < (n.cps.toList.length : Int)) = false := decide_eq_false (by omega)
    rw [a1, a2]; rfl
  · have hC := ed_lcStr (K := K) (σ := [some (.str n), none]) (H := H1) (x := n) (tl := tVar 0) (t := tYes) (g := gName 1) (te := tOp (fun x y H Q => ∃ (c : Nat) (z : Str), x = .str ⟨#[c]⟩ ∧ y = .str z ∧ Q (.bl (decide (c ∈ z.cps.toList))) H) (tVar 1) (tC (.str letters))) (vs := [1]) (out := fun _ => .bool true) (f := fun _ => true) (ed_var rfl (.str n)) (by omega) (fun _ _ _ => rfl)
      fun c hc H2 e2 R kk => kk [some (.str n), some (.str ⟨#[c]⟩)] H2 (Ex.refl _) rfl et_yes fun _ => ed_bl (ev_is (ev_op (ev_var rfl) ev_c (z := .bl (decide (c ∈ letters.cps.toList))) fun H3 e3 Q q => ⟨c, letters, rfl, rfl, q H3 (Ex.refl _)⟩) (by rw [decide_eq_true (hn.sg c hc)]))
    rw [filter_all, all_true] at hC
    refine s_retD (ed_cb (eda_1 hC) rc_all) fun v H2 e2 hv => q v H2 (e1.trans e2) ?_
    rw [all_id] at hv
    have ea : (n.cps.toList.all fun _ => true) = true := List.all_eq_true.mpr fun _ _ => rfl
    rw [ea] at hv
    exact hv
def RWhole (ds : List PyData) (d : PyData) : Prop := ∃ i l : Int, l ≤ i ∧ ds = [.int i, .int l] ∧ d = .bool true
theorem c_is_whole (T : Txt K mg aO aS B bI) : Cal P w K mg base 1 "is_whole" (spR K RWhole) := by
  have sc : FnScope ["thing", "low"] ["thing", "low"] (defScope (top 30)) := ⟨rfl, rfl, rfl, by decide +kernel, rfl, by decide +kernel, by decide +kernel⟩
  refine calD T.a_is_whole sc (spR_len fun ds d ⟨_, _, _, e, _⟩ => by rw [e]; rfl) (fun _ _ _ _ _ _ us hl => match us, hl with | [_, _], _ => rfl) fun f cdv A outer s H vs Q E hr h => ?_
  refine ⟨_, (pss_one (ps_ret (pe_and (pe_callB call_isi rfl T.n_isinstance b_isinstance (pa_cons (pv 0) (pa_cons (pe_bltn (v := .ty "int") rfl T.n_int b_int rfl) pa_nil))) (pe_and (pe_not (pe_callB call_isi rfl T.n_isinstance b_isinstance (pa_cons (pv 0) (pa_cons (pe_bltn (v := .ty "bool") rfl T.n_bool b_bool rfl) pa_nil)))) (pe_one (pe_cmpR op_ge (pv 0) (pv 1) (nomark _))))))), ?_⟩
  obtain ⟨ds, d, ⟨i, l, hl, rfl, rfl⟩, hv, q⟩ := h
  obtain ⟨v1, v2, rfl, h1, h2⟩ := dpa_two hv
  have e1 := dp_int h1
  have e2 := dp_int h2
  subst e1 e2
  show (_ : TS) _ [some (.int i), some (.int l)] H
  refine s_ret (v := .bl true) (ev_is (ev_andV (isi_int (ed_var rfl (.int i))) fun _ => ev_andV (ev_notV (isi_intB (ed_var rfl (.int i)))) fun _ => ev_op (ev_var rfl) (ev_var rfl) rv_I0) ?_) fun H1 e1 => q _ H1 e1 (.bl true)
  rw [decide_eq_true hl]; rfl
theorem rises_get : ∀ {l : List (Grv.Tree × Int)} {i : Nat} {p q : Grv.Tree × Int}, Grv.rises l → l[i]? = some p → l[i + 1]? = some q → Grv.lt p.1 q.1 = true
  | [], i, p, q, _, h, _ => by simp at h
  | [a], i, p, q, _, _, h => by simp at h
  | a :: b :: r, 0, p, q, h, h1, h2 => by
    have e1 : a = p := by simpa using h1
    have e2 : b = q := by simpa using h2
    subst e1 e2
    exact h.1
  | a :: b :: r, i + 1, p, q, h, h1, h2 => rises_get (l := b :: r) (i := i) h.2 (by simpa using h1) (by simpa using h2)
def RGrove (n : Nat) (ds : List PyData) (d : PyData) : Prop := ∃ g : Grv, g.dep < n ∧ n ≤ 5 ∧ g.parts ≤ 10 ∧ Grv.Ok NameOk g ∧ ds = [g.d] ∧ d = .bool true
def RTree (n : Nat) (ds : List PyData) (d : PyData) : Prop := ∃ t : Grv.Tree, t.2.dep < n ∧ n ≤ 5 ∧ t.2.parts ≤ 10 ∧ NameOk t.1 ∧ Grv.Ok NameOk t.2 ∧ ds = [Grv.trD t] ∧ d = .bool true
def RPair (n : Nat) (ds : List PyData) (d : PyData) : Prop := ∃ p : Grv.Tree × Int, p.1.2.dep < n ∧ n ≤ 5 ∧ p.1.2.parts ≤ 10 ∧ NameOk p.1.1 ∧ Grv.Ok NameOk p.1.2 ∧ 1 ≤ p.2 ∧ ds = [Grv.prD p] ∧ d = .bool true
theorem len_ne {σ : L2.St} {H : Hp} {ta : TE} {ds : List PyData} {n : Nat} (h : EvD K ta σ H (.tuple ds)) (hl : ds.length = n) : EvT (tTest (tOp rNe (tCB (rLenS K) (tCons ta tNil)) (tC (.int (n : Int))))) σ H false := et_is (et_test (ev_op (ev_int (ed_cb (eda_1 h) rc_lenT)) ev_c (rv_ne rfl))) (by rw [hl]; simp)
theorem c_is_tree (T : Txt K mg aO aS B bI) (n : Nat) (c_is_grove : Cal P w K mg base (3 * n + 1) "is_grove" (spR K (RGrove n))) : Cal P w K mg base (3 * n + 2) "is_tree" (spR K (RTree n)) := by
  have c_is_name := c_is_name (P := P) (w := w) (base := base) T
  have sc : FnScope ["thing"] ["thing"] (defScope (top 60)) := ⟨rfl, rfl, rfl, by decide +kernel, rfl, by decide +kernel, by decide +kernel⟩
  refine calD (k := 3 * n + 1) T.a_is_tree sc (spR_len fun ds d ⟨_, _, _, _, _, _, e, _⟩ => by rw [e]; rfl) (fun _ _ _ _ _ _ us hl => match us, hl with | [_], _ => rfl) fun f cdv A outer s H vs Q E hr h => ?_
  refine ⟨_, (pss_cons (ps_if (pt_bool (pw_or (pt_not (pt_val (pe_callB call_isi rfl T.n_isinstance b_isinstance (pa_cons (pv 0) (pa_cons (pe_bltn (v := .ty "tuple") rfl T.n_tuple b_tuple rfl) pa_nil))))) (pw_or1 (pt_cmpR op_ne (pe_callB (show CallR _ _ (rLenS K) from call_len_seq) rfl T.n_len b_len (pa_cons (pv 0) pa_nil)) pe_int (nomark _))))) (pss_one (ps_ret pe_bl)) pss_nil)
    (pss_one (ps_ret (pe_and (pe_c c_is_name hr (by omega) rfl (pa_cons (pe_ix (show IxR _ (rIxT K) from ix_tup) (pv 0) pe_int (fun _ _ => rfl)) pa_nil)) (pe_one (pe_c c_is_grove hr (by omega) rfl (pa_cons (pe_ix (show IxR _ (rIxT K) from ix_tup) (pv 0) pe_int (fun _ _ => rfl)) pa_nil))))))), ?_⟩
  obtain ⟨ds, d, ⟨⟨k, g⟩, hd, hn, hp, hk, hg, rfl, rfl⟩, hv, q⟩ := h
  obtain ⟨vt, rfl, h1⟩ := dpa_one hv
  show (_ : TS) _ [some vt] H
  refine q_when (b := false) (et_is (et_or (et_not (et_B (isi_tup (ds := [.str k, g.d]) (ed_var rfl h1)))) fun _ => len_ne (n := 2) (ds := [.str k, g.d]) (ed_var rfl h1) rfl) rfl) (fun hb => by cases hb) fun _ H1 e1 => ?_
  refine s_ret (v := .bl true) (ev_is (ev_andV (a := true) (ev_bl (ed_call (eda_1 (d := .str k) (ed_at (i := 0) (ds := [.str k, g.d]) (ed_var rfl (dp_ex e1 h1)) rfl)) (spd_of ⟨k, hk, rfl, rfl⟩))) fun _ => ev_bl (ed_call (d := .bool true) (eda_1 (d := g.d) (ed_at (i := 1) (ds := [.str k, g.d]) (ed_var rfl (dp_ex e1 h1)) rfl)) (spd_of ⟨g, hd, hn, hp, hg, rfl, rfl⟩))) rfl) fun H2 e2 => q _ H2 (e1.trans e2) (.bl true)
theorem c_is_pair (T : Txt K mg aO aS B bI) (n : Nat) (c_is_tree : Cal P w K mg base (3 * n + 2) "is_tree" (spR K (RTree n))) : Cal P w K mg base (3 * n + 3) "is_pair" (spR K (RPair n)) := by
  have c_is_whole := c_is_whole (P := P) (w := w) (base := base) T
  have sc : FnScope ["thing"] ["thing"] (defScope (top 61)) := ⟨rfl, rfl, rfl, by decide +kernel, rfl, by decide +kernel, by decide +kernel⟩
  refine calD (k := 3 * n + 2) T.a_is_pair sc (spR_len fun ds d ⟨_, _, _, _, _, _, _, e, _⟩ => by rw [e]; rfl) (fun _ _ _ _ _ _ us hl => match us, hl with | [_], _ => rfl) fun f cdv A outer s H vs Q E hr h => ?_
  refine ⟨_, (pss_cons (ps_if (pt_bool (pw_or (pt_not (pt_val (pe_callB call_isi rfl T.n_isinstance b_isinstance (pa_cons (pv 0) (pa_cons (pe_bltn (v := .ty "tuple") rfl T.n_tuple b_tuple rfl) pa_nil))))) (pw_or1 (pt_cmpR op_ne (pe_callB (show CallR _ _ (rLenS K) from call_len_seq) rfl T.n_len b_len (pa_cons (pv 0) pa_nil)) pe_int (nomark _))))) (pss_one (ps_ret pe_bl)) pss_nil)
    (pss_one (ps_ret (pe_and (pe_c c_is_tree hr (by omega) rfl (pa_cons (pe_ix (show IxR _ (rIxT K) from ix_tup) (pv 0) pe_int (fun _ _ => rfl)) pa_nil)) (pe_one (pe_c c_is_whole hr (by omega) rfl (pa_cons (pe_ix (show IxR _ (rIxT K) from ix_tup) (pv 0) pe_int (fun _ _ => rfl)) (pa_cons pe_int pa_nil)))))))), ?_⟩
  obtain ⟨ds, d, ⟨⟨t, m⟩, hd, hn, hp, hk, hg, hm, rfl, rfl⟩, hv, q⟩ := h
  obtain ⟨vt, rfl, h1⟩ := dpa_one hv
  show (_ : TS) _ [some vt] H
  refine q_when (b := false) (et_is (et_or (et_not (et_B (isi_tup (ds := [Grv.trD t, .int m]) (ed_var rfl h1)))) fun _ => len_ne (n := 2) (ds := [Grv.trD t, .int m]) (ed_var rfl h1) rfl) rfl) (fun hb => by cases hb) fun _ H1 e1 => ?_
  refine s_ret (v := .bl true) (ev_is (ev_andV (a := true) (ev_bl (ed_call (eda_1 (d := Grv.trD t) (ed_at (i := 0) (ds := [Grv.trD t, .int m]) (ed_var rfl (dp_ex e1 h1)) rfl)) (spd_of ⟨t, hd, hn, hp, hk, hg, rfl, rfl⟩))) fun _ => ev_bl (ed_call (d := .bool true) (eda_2 (d := .int m) (d' := .int 1) (ed_at (i := 1) (ds := [Grv.trD t, .int m]) (ed_var rfl (dp_ex e1 h1)) rfl) (ed_int ev_c)) (spd_of ⟨m, 1, hm, rfl, rfl⟩))) rfl) fun H2 e2 => q _ H2 (e1.trans e2) (.bl true)
theorem gds_at {a : Grv} {j : Nat} {p : Grv.Tree × Int} (h : a.toL[j]? = some p) : a.ds[j]? = some (Grv.prD p) := by rw [Grv.ds_toL, List.getElem?_map, h]; rfl
theorem c_is_grove (T : Txt K mg aO aS B bI) : ∀ n, Cal P w K mg base (3 * n + 1) "is_grove" (spR K (RGrove n))
  | 0 => calN (ps := ["thing"]) T.a_is_grove (fun vs H Q E ⟨_, _, ⟨_, h, _⟩, _⟩ => absurd h (Nat.not_lt_zero _)) (fun _ _ _ _ _ _ us hl => match us, hl with | [_], _ => rfl)
  | n + 1 => by
    have c_is_pair := c_is_pair T n (c_is_tree T n (c_is_grove T n))
    have sc : FnScope ["thing", "pair", "k"] ["thing"] (defScope (top 62)) := ⟨rfl, rfl, rfl, by decide +kernel, rfl, by decide +kernel, by decide +kernel⟩
    refine Cal.mono (k := 3 * n + 4) (calD (k := 3 * n + 3) (sp := spR K (RGrove (n + 1))) T.a_is_grove sc (spR_len fun ds d ⟨_, _, _, _, _, e, _⟩ => by rw [e]; rfl) (fun _ _ _ _ _ _ us hl => match us, hl with | [_], _ => rfl) fun f cdv A outer s H vs Q E hr h => ?_) (by omega)
    refine ⟨_, (pss_cons (ps_if (pt_not (pt_val (pe_callB call_isi rfl T.n_isinstance b_isinstance (pa_cons (pv 0) (pa_cons (pe_bltn (v := .ty "tuple") rfl T.n_tuple b_tuple rfl) pa_nil))))) (pss_one (ps_ret pe_bl)) pss_nil)
    (pss_cons (ps_for PassesOwn.never rfl (show PI _ _ _ (iTup K _) from (pi_tup (pv 0))) (pg_name (i := 1) sc.nd rfl (Or.inl rfl))
      (pss_one (ps_if (pt_not (pt_val (pe_c c_is_pair hr (by omega) rfl (pa_cons (pv 1) pa_nil)))) (pss_one (ps_ret pe_bl)) pss_nil)))
    (pss_cons (ps_for PassesOwn.never rfl (pi_range2 rfl T.n_range (pa_cons pe_int (pa_cons (pe_callB (show CallR _ _ (rLenS K) from call_len_seq) rfl T.n_len b_len (pa_cons (pv 0) pa_nil)) pa_nil))) (pg_name (i := 2) sc.nd rfl (Or.inl rfl))
      (pss_one (ps_if (pt_not (pt_cmpR (op_ltD hr.units) (pe_ix (show IxR _ (rIxT K) from ix_tup) (pe_ix (show IxR _ (rIxT K) from ix_tup) (pv 0) (pe_op op_sub (pv 2) pe_int) (fun _ _ => rfl)) pe_int (fun _ _ => rfl)) (pe_ix (show IxR _ (rIxT K) from ix_tup) (pe_ix (show IxR _ (rIxT K) from ix_tup) (pv 0) (pv 2) (fun _ _ => rfl)) pe_int (fun _ _ => rfl)) (nomark _))) (pss_one (ps_ret pe_bl)) pss_nil)))
    (pss_one (ps_ret pe_bl))))), ?_⟩
    obtain ⟨ds, d, ⟨g, hd, hn, hp, hg, rfl, rfl⟩, hv, q⟩ := h
    obtain ⟨vg, rfl, h1⟩ := dpa_one hv
    show (_ : TS) _ [some vg, none, none] H
    have hgl := g.len_le_parts
    refine q_when (b := false) (et_is (et_not (et_B (isi_tup (ds := g.ds) (ed_var rfl h1)))) rfl) (fun hb => by cases hb) fun _ H1 e1 => ?_
    refine s_forTD (K := K) (D := { nx := _, rt := _, bk := _, ct := _ }) (ds := g.ds) (ed_var rfl (dp_ex e1 h1)) (nol_grvs g) (fun H2 i σ' H' => Ex H2 H' ∧ ∃ x, σ' = [some vg, x, none]) (fun H2 e2 => ⟨Ex.refl _, _, rfl⟩) (fun H2 i σ' H' pv => tx_ex pv.1) ?_ ?_
    · rintro H2 e2 i d x σ' H' hdd hx ⟨e3, x0, rfl⟩
      obtain ⟨p, hp', rfl⟩ := gds_get hdd
      obtain ⟨m1, m2, _, _⟩ := Grv.mem_facts (gmem hp')
      obtain ⟨o1, o2, o3, o4, _⟩ := hg.mem (gmem hp')
      refine g_name ?_
      show (_ : TS) _ [some vg, some x, none] H'
      refine s_when (b := false) (et_is (et_not (a := true) (et_B (ev_bl (ed_call (eda_1 (d := Grv.prD p) (ed_var rfl hx)) (spd_of ⟨p, by omega, by omega, by omega, o1, o2, o3, rfl, rfl⟩))))) rfl) (fun hb => by cases hb) fun _ H3 e4 => ⟨e3.trans e4, _, rfl⟩
    · rintro H2 e2 σ' H' ⟨e3, x0, rfl⟩
      have eH := (e1.trans e2).trans e3
      refine q_forR2 (lo := 1) (n := (g.len : Int)) (ea_cons ev_c (ea_cons (ev_is (ev_int (ed_cb (eda_1 (ed_var (d := g.d) rfl (dp_ex eH h1))) rc_lenT)) (by rw [Grv.ds_length])) ea_nil)) ⟨by decide, by decide, by omega, by omega⟩ (fun i σ' H'' => Ex H' H'' ∧ ∃ x y, σ' = [some vg, x, y]) (fun H3 e4 => ⟨e4, _, _, rfl⟩) ?_ ?_
      · rintro i σ' H3 hi ⟨e4, x1, y1, rfl⟩
        show (_ : TS) _ [some vg, x1, some (.int (1 + (i : Int)))] H3
        have i1 : i + 1 < g.toL.length := by rw [Grv.toL_length]; omega
        have gp : g.toL[i]? = some g.toL[i] := List.getElem?_eq_getElem (by omega)
        have gq : g.toL[i + 1]? = some g.toL[i + 1] := List.getElem?_eq_getElem i1
        generalize g.toL[i] = p at gp
        generalize g.toL[i + 1] = r at gq
        have hlt := rises_get hg.rises gp gq
        have hg3 := dp_ex (eH.trans e4) h1
        obtain ⟨m1, m2, _, _⟩ := Grv.mem_facts (gmem gp)
        have dpt := depth_tr p.1
        have ea : EvD K (tOp (rIxT K) (tOp (rIxT K) (tVar 0) (tOp (rI0 fun i j => .int (i - j)) (tVar 2) (tC (.int 1)))) (tC (.int (0 : Nat)))) [some vg, x1, some (.int (1 + (i : Int)))] H3 (Grv.trD p.1) :=
          ed_at (i := 0) (ed_ixT (d := Grv.prD p) (i := (i : Int)) (ds := g.ds) (ed_var rfl hg3) (ed_int (ev_is (ev_op (ev_var rfl) ev_c rv_I0) (by congr 1; omega))) (atI_n (gds_at gp))) rfl
        have eb : EvD K (tOp (rIxT K) (tOp (rIxT K) (tVar 0) (tVar 2)) (tC (.int (0 : Nat)))) [some vg, x1, some (.int (1 + (i : Int)))] H3 (Grv.trD r.1) :=
          ed_at (i := 0) (ed_ixT (d := Grv.prD r) (i := ((i + 1 : Nat) : Int)) (ds := g.ds) (ed_var rfl hg3) (ed_int (ev_is (ev_var rfl) (by congr 1; omega))) (atI_n (gds_at gq))) rfl
        refine s_when (b := false) (et_is (et_not (a := true) (et_test (te := tOp (rLtD K) _ _) fun H4 e5 Q2 q2 => ea H4 e5 _ fun v1 H5 e6 hv1 => eb H5 (e5.trans e6) _ fun v2 H6 e7 hv2 => ⟨Grv.trD p.1, Grv.trD r.1, dp_ex e7 hv1, hv2, Grv.alike_tree _ _, (fun h => nomatch h), by omega, ?_⟩)) rfl) (fun hb => by cases hb) fun _ H4 e5 => ⟨e4.trans e5, _, _, rfl⟩
        have hlt' : PySem.W.dataLt (Grv.trD p.1) (Grv.trD r.1) = true := hlt
        rw [hlt']
        exact q2 H6 (e6.trans e7)
      · rintro σ' H3 ⟨e4, x1, y1, rfl⟩
        exact s_ret ev_c fun H4 e5 => q _ H4 ((eH.trans e4).trans e5) (.bl true)
def RParts (n : Nat) (ds : List PyData) (d : PyData) : Prop := ∃ g : Grv, g.dep < n ∧ g.parts ≤ 10 ∧ ds = [g.d] ∧ d = .int (g.parts : Int)
theorem parts_sum : ∀ g : Grv, (g.toL.map fun p => (1 : Int) + (p.1.2.parts : Int)).sum = (g.parts : Int)
  | .nil => rfl
  | .cons k g m r => by
    have h := parts_sum r
    simp only [Grv.toL, List.map_cons, List.sum_cons, h, Grv.parts]
    omega
theorem c_parts_of (T : Txt K mg aO aS B bI) : ∀ n, Cal P w K mg base n "parts_of" (spR K (RParts n))
  | 0 => calN (ps := ["grove"]) T.a_parts_of (fun vs H Q E ⟨_, _, ⟨_, h, _⟩, _⟩ => absurd h (Nat.not_lt_zero _)) (fun _ _ _ _ _ _ us hl => match us, hl with | [_], _ => rfl)
  | n + 1 => by
    have c_parts_of := c_parts_of T n
    have sc : FnScope ["grove", "tree", "many"] ["grove"] (defScope (top 63)) := ⟨rfl, rfl, rfl, by decide +kernel, rfl, by decide +kernel, by decide +kernel⟩
    refine calD T.a_parts_of sc (spR_len fun ds d ⟨_, _, _, e, _⟩ => by rw [e]; rfl) (fun _ _ _ _ _ _ us hl => match us, hl with | [_], _ => rfl) fun f cdv A outer s H vs Q E hr h => ?_
    refine ⟨_, (pss_one (ps_ret (pe_callB (cr_sum rfl) rfl T.n_sum b_sum (pa_cons (pe_lc (own := [("tree", 1), ("many", 2)]) rfl sc.nd (show PI _ _ _ (iTup K _) from (pi_tup (pv 0))) (blkOk_by (N := ["grove", "tree", "many"]) (sc := (defScope (top 63))) (own := [("tree", 1), ("many", 2)]) (by decide +kernel)) (fun _ _ _ _ _ => (show PG _ _ (gTup K 2 _) from (pg_tup rfl (pgs_cons (pg_name (i := 1) sc.nd rfl (Or.inl rfl)) (pgs_cons (pg_name (i := 2) sc.nd rfl (Or.inl rfl)) pgs_nil))))) (fun _ _ _ _ _ => pts_nil) (fun _ _ _ _ _ => (pe_op op_add pe_int (pe_c c_parts_of hr (by omega) rfl (pa_cons (pe_ix (show IxR _ (rIxT K) from ix_tup) (pv 1) pe_int (fun _ _ => rfl)) pa_nil))))) pa_nil)))), ?_⟩
    obtain ⟨ds, d, ⟨g, hd, hp, rfl, rfl⟩, hv, q⟩ := h
    obtain ⟨vg, rfl, h1⟩ := dpa_one hv
    show (_ : TS) _ [some vg, none, none] H
    have hgl := g.len_le_parts
    have hC := ed_lcT (K := K) (σ := [some vg, none, none]) (H := H) (enc := Grv.prD) (out := fun p => .int (1 + (p.1.2.parts : Int))) (ls := g.toL) (f := fun _ => true) (t := tYes) (g := gTup K 2 (gCons (gName 1) (gCons (gName 2) gNil))) (te := tOp (rI0 fun i j => .int (i + j)) (tC (.int 1)) (tCall (spR K (RParts n)) [] E0 (tCons (tOp (rIxT K) (tVar 1) (tC (.int (1 : Nat)))) tNil))) (tl := tVar 0) (vs := [1, 2]) (by rw [← Grv.ds_toL]; exact ed_var rfl h1) (by rw [Grv.toL_length]; omega) (fun _ _ _ => rfl)
      fun p hp' v H3 e3 hd' R kk => g_two (d := Grv.trD p.1) (d' := .int p.2) hd' fun w1 w2 g1 g2 => by
        obtain ⟨m1, m2, _, _⟩ := Grv.mem_facts hp'
        exact kk [some vg, some w1, some w2] H3 (Ex.refl _) rfl et_yes fun _ => ed_int (ev_op ev_c (ev_int (ed_call (eda_1 (d := p.1.2.d) (ed_at (i := 1) (ed_var rfl g1) rfl)) (spd_of ⟨p.1.2, by omega, by omega, rfl, rfl⟩))) rv_I0)
    have em : (g.toL.map fun p => PyData.int (1 + (p.1.2.parts : Int))) = (g.toL.map fun p => (1 : Int) + (p.1.2.parts : Int)).map PyData.int := by rw [List.map_map]; rfl
    rw [filter_all, em] at hC
    refine s_retD (ed_cb (eda_1 hC) rc_sum) fun v H2 e2 hv => q v H2 e2 ?_
    rw [parts_sum] at hv
    exact hv
def RFits (n : Nat) (ds : List PyData) (d : PyData) : Prop := ∃ (g : Grv) (nms : List Str), g.dep < n ∧ Grv.Ok (· ∈ nms) g ∧ ds = [g.d, .list (nms.map PyData.str)] ∧ d = .bool true
theorem c_fits_in (T : Txt K mg aO aS B bI) : ∀ n, Cal P w K mg base n "fits_in" (spR K (RFits n))
  | 0 => calN (ps := ["grove", "names"]) T.a_fits_in (fun vs H Q E ⟨_, _, ⟨_, _, h, _⟩, _⟩ => absurd h (Nat.not_lt_zero _)) (fun _ _ _ _ _ _ us hl => match us, hl with | [_, _], _ => rfl)
  | n + 1 => by
    have c_fits_in := c_fits_in T n
    have sc : FnScope ["grove", "names", "tree", "many"] ["grove", "names"] (defScope (top 70)) := ⟨rfl, rfl, rfl, by decide +kernel, rfl, by decide +kernel, by decide +kernel⟩
    refine calD T.a_fits_in sc (spR_len fun ds d ⟨_, _, _, _, e, _⟩ => by rw [e]; rfl) (fun _ _ _ _ _ _ us hl => match us, hl with | [_, _], _ => rfl) fun f cdv A outer s H vs Q E hr h => ?_
    refine ⟨_, (pss_cons (ps_for PassesOwn.never rfl (show PI _ _ _ (iTup K _) from (pi_tup (pv 0))) (show PG _ _ (gTup K 2 _) from (pg_tup rfl (pgs_cons (pg_name (i := 2) sc.nd rfl (Or.inl rfl)) (pgs_cons (pg_name (i := 3) sc.nd rfl (Or.inl rfl)) pgs_nil))))
      (pss_one (ps_if (pt_bool (pw_or (pt_cmpR op_gt (pv 3) (pe_gc rfl T.g_MOST_MANY) (nomark _)) (pw_or (pt_cmpR (show OpR _ _ (rIn K true) from op_notIn_seq) (pe_ix (show IxR _ (rIxT K) from ix_tup) (pv 2) pe_int (fun _ _ => rfl)) (pv 1) (by with_unfolding_all rfl)) (pw_or1 (pt_not (pt_val (pe_c c_fits_in hr (by omega) rfl (pa_cons (pe_ix (show IxR _ (rIxT K) from ix_tup) (pv 2) pe_int (fun _ _ => rfl)) (pa_cons (pv 1) pa_nil))))))))) (pss_one (ps_ret pe_bl)) pss_nil)))
    (pss_one (ps_ret pe_bl))), ?_⟩
    obtain ⟨ds, d, ⟨g, nms, hd, hg, rfl, rfl⟩, hv, q⟩ := h
    obtain ⟨vg, vn, rfl, h1, h2⟩ := dpa_two hv
    show (_ : TS) _ [some vg, some vn, none, none] H
    refine s_forTD (K := K) (D := { nx := _, rt := _, bk := _, ct := _ }) (ds := g.ds) (ed_var rfl h1) (nol_grvs g) (fun H2 i σ' H' => Ex H2 H' ∧ ∃ x y, σ' = [some vg, some vn, x, y]) (fun H2 e2 => ⟨Ex.refl _, _, _, rfl⟩) (fun H2 i σ' H' pv => tx_ex pv.1) ?_ ?_
    · rintro H2 e2 i d x σ' H' hdd hx ⟨e3, x0, y0, rfl⟩
      obtain ⟨⟨⟨k, g'⟩, m⟩, hp', rfl⟩ := gds_get hdd
      obtain ⟨m1, m2, _, _⟩ := Grv.mem_facts (gmem hp')
      obtain ⟨o1, o2, o3, o4, _⟩ := hg.mem (gmem hp')
      simp only at m1 m2 o1 o2 o3 o4
      refine g_two (d := Grv.trD (k, g')) (d' := .int m) hx fun w1 w2 f1 f2 => ?_
      have hw2 := dp_int f2
      subst hw2
      show (_ : TS) _ [some vg, some vn, some w1, some (.int m)] H'
      have n3 := dp_ex (e2.trans e3) h2
      refine s_when (b := false) (et_is (et_or (et_test (ev_op (ev_var rfl) ev_c rv_I0)) fun _ => et_or (et_test (ev_niS (x := k) (ed_at (i := 0) (ed_var rfl f1) rfl) (ed_var rfl n3))) fun _ => et_not (a := true) (et_B (ev_bl (ed_call (eda_2 (d := g'.d) (ed_at (i := 1) (ed_var rfl f1) rfl) (ed_var rfl n3)) (spd_of ⟨g', nms, by omega, o2, rfl, rfl⟩))))) ?_) (fun hb => by cases hb) fun _ H3 e4 => ⟨e3.trans e4, _, _, rfl⟩
      rw [decide_eq_false (by omega), decide_eq_true o1]; rfl
    · rintro H2 e2 σ' H' ⟨e3, x0, y0, rfl⟩
      show tRet (tC (.bl true)) { nx := fun _ H' => Q .non H', rt := Q } [some vg, some vn, x0, y0] H'
      exact s_ret ev_c fun H4 e5 => q _ H4 ((e2.trans e3).trans e5) (.bl true)
/-- a rule of good names among nms -/
structure RlOk (nms : List Str) (r : Rule) : Prop where
  a : RuleOk (· ∈ nms) r
  b : RuleOk NameOk r
def RIsRule (ds : List PyData) (d : PyData) : Prop := ∃ (r : Rule) (nms : List Str), RlOk nms r ∧ ds = [ruleD r, .list (nms.map PyData.str)] ∧ d = .bool true
theorem c_is_rule (T : Txt K mg aO aS B bI) : Cal P w K mg base 11 "is_rule" (spR K RIsRule) := by
  have c_is_grove := c_is_grove (P := P) (w := w) (base := base) T 3
  have c_fits_in := c_fits_in (P := P) (w := w) (base := base) T 3
  have c_parts_of := c_parts_of (P := P) (w := w) (base := base) T 3
  have sc : FnScope ["thing", "names", "grove"] ["thing", "names"] (defScope (top 71)) := ⟨rfl, rfl, rfl, by decide +kernel, rfl, by decide +kernel, by decide +kernel⟩
  refine calD T.a_is_rule sc (spR_len fun ds d ⟨_, _, _, e, _⟩ => by rw [e]; rfl) (fun _ _ _ _ _ _ us hl => match us, hl with | [_, _], _ => rfl) fun f cdv A outer s H vs Q E hr h => ?_
  refine ⟨_, (pss_cons (ps_if (pt_bool (pw_or (pt_not (pt_val (pe_callB call_isi rfl T.n_isinstance b_isinstance (pa_cons (pv 0) (pa_cons (pe_bltn (v := .ty "tuple") rfl T.n_tuple b_tuple rfl) pa_nil))))) (pw_or1 (pt_cmpR op_ne (pe_callB (show CallR _ _ (rLenS K) from call_len_seq) rfl T.n_len b_len (pa_cons (pv 0) pa_nil)) pe_int (nomark _))))) (pss_one (ps_ret pe_bl)) pss_nil)
    (pss_cons (ps_for PassesOwn.never rfl (show PI _ _ _ (iTup K _) from (pi_tup (pv 0))) (pg_name (i := 2) sc.nd rfl (Or.inl rfl))
      (pss_one (ps_if (pt_bool (pw_or (pt_not (pt_val (pe_c c_is_grove hr (by omega) rfl (pa_cons (pv 2) pa_nil)))) (pw_or1 (pt_not (pt_val (pe_c c_fits_in hr (by omega) rfl (pa_cons (pv 2) (pa_cons (pv 1) pa_nil)))))))) (pss_one (ps_ret pe_bl)) pss_nil)))
    (pss_one (ps_ret (pe_cmpR op_le (pe_op op_add (pe_c c_parts_of hr (by omega) rfl (pa_cons (pe_ix (show IxR _ (rIxT K) from ix_tup) (pv 0) pe_int (fun _ _ => rfl)) pa_nil)) (pe_c c_parts_of hr (by omega) rfl (pa_cons (pe_ix (show IxR _ (rIxT K) from ix_tup) (pv 0) pe_int (fun _ _ => rfl)) pa_nil))) (pe_gc rfl T.g_MOST_PARTS) (nomark _)))))), ?_⟩
  obtain ⟨ds, d, ⟨r, nms, hr', rfl, rfl⟩, hv, q⟩ := h
  obtain ⟨vr, vn, rfl, h1, h2⟩ := dpa_two hv
  show (_ : TS) _ [some vr, some vn, none] H
  have few := hr'.a.few
  have d1 := r.1.dep_le_parts
  have d2 := r.2.dep_le_parts
  refine q_when (b := false) (et_is (et_or (et_not (et_B (isi_tup (ds := [r.1.d, r.2.d]) (ed_var rfl h1)))) fun _ => len_ne (n := 2) (ds := [r.1.d, r.2.d]) (ed_var rfl h1) rfl) rfl) (fun hb => by cases hb) fun _ H1 e1 => ?_
  refine s_forTD (K := K) (D := { nx := _, rt := _, bk := _, ct := _ }) (ds := [r.1, r.2].map Grv.d) (ed_var rfl (dp_ex e1 h1)) (noLs_map nol_grv) (fun H2 i σ' H' => Ex H2 H' ∧ ∃ x, σ' = [some vr, some vn, x]) (fun H2 e2 => ⟨Ex.refl _, _, rfl⟩) (fun H2 i σ' H' pv => tx_ex pv.1) ?_ ?_
  · rintro H2 e2 i d x σ' H' hdd hx ⟨e3, x0, rfl⟩
    obtain ⟨g, hgi, rfl⟩ := map_get hdd
    have hg : g = r.1 ∨ g = r.2 := by simpa using List.mem_of_getElem? hgi
    have o1 : Grv.Ok NameOk g := by rcases hg with rfl | rfl; exact hr'.b.o; exact hr'.b.e
    have o2 : Grv.Ok (· ∈ nms) g := by rcases hg with rfl | rfl; exact hr'.a.o; exact hr'.a.e
    have o3 : g.dep < 3 ∧ g.parts ≤ 10 := by rcases hg with rfl | rfl <;> omega
    refine g_name ?_
    show (_ : TS) _ [some vr, some vn, some x] H'
    refine s_when (b := false) (et_is (et_or (et_not (a := true) (et_B (ev_bl (ed_call (eda_1 (d := g.d) (ed_var rfl hx)) (spd_of ⟨g, o3.1, by decide, o3.2, o1, rfl, rfl⟩))))) fun _ => et_not (a := true) (et_B (ev_bl (ed_call (eda_2 (d := g.d) (ed_var rfl hx) (ed_var rfl (dp_ex ((e1.trans e2).trans e3) h2))) (spd_of ⟨g, nms, o3.1, o2, rfl, rfl⟩))))) rfl) (fun hb => by cases hb) fun _ H3 e4 => ⟨e3.trans e4, _, rfl⟩
  · rintro H2 e2 σ' H' ⟨e3, x0, rfl⟩
    have hr3 := dp_ex ((e1.trans e2).trans e3) h1
    refine s_ret (v := .bl true) (ev_is (ev_op (ev_op (ev_int (ed_call (eda_1 (d := r.1.d) (ed_at (i := 0) (ds := [r.1.d, r.2.d]) (ed_var rfl hr3) rfl)) (spd_of ⟨r.1, by omega, by omega, rfl, rfl⟩))) (ev_int (ed_call (eda_1 (d := r.2.d) (ed_at (i := 1) (ds := [r.1.d, r.2.d]) (ed_var rfl hr3) rfl)) (spd_of ⟨r.2, by omega, by omega, rfl, rfl⟩))) rv_I0) ev_c rv_I0) ?_) fun H4 e5 => q _ H4 (((e1.trans e2).trans e3).trans e5) (.bl true)
    rw [decide_eq_true (by omega)]
def RAreRules (ds : List PyData) (d : PyData) : Prop := ∃ (rs : List Rule) (nms : List Str), rs.length ≤ 3 ∧ (∀ r ∈ rs, RlOk nms r) ∧ ds = [.list (rs.map ruleD), .list (nms.map PyData.str)] ∧ d = .bool true
theorem c_are_rules (T : Txt K mg aO aS B bI) : Cal P w K mg base 12 "are_rules" (spR K RAreRules) := by
  have c_is_rule := c_is_rule (P := P) (w := w) (base := base) T
  have sc : FnScope ["thing", "names", "rule"] ["thing", "names"] (defScope (top 72)) := ⟨rfl, rfl, rfl, by decide +kernel, rfl, by decide +kernel, by decide +kernel⟩
  refine calD T.a_are_rules sc (spR_len fun ds d ⟨_, _, _, _, e, _⟩ => by rw [e]; rfl) (fun _ _ _ _ _ _ us hl => match us, hl with | [_, _], _ => rfl) fun f cdv A outer s H vs Q E hr h => ?_
  refine ⟨_, (pss_cons (ps_if (pt_bool (pw_or (pt_not (pt_val (pe_callB call_isi rfl T.n_isinstance b_isinstance (pa_cons (pv 0) (pa_cons (pe_bltn (v := .ty "list") rfl T.n_list b_list rfl) pa_nil))))) (pw_or1 (pt_cmpR op_gt (pe_callB (show CallR _ _ (rLenS K) from call_len_seq) rfl T.n_len b_len (pa_cons (pv 0) pa_nil)) (pe_gc rfl T.g_MOST_RULES) (nomark _))))) (pss_one (ps_ret pe_bl)) pss_nil)
    (pss_one (ps_ret (pe_callB (show CallR _ _ (rAll K) from (cr_all rfl)) rfl T.n_all b_all (pa_cons (pe_lc (own := [("rule", 2)]) rfl sc.nd (show PI _ _ _ (iList K _) from (pi_list (pv 0))) (blkOk_by (N := ["thing", "names", "rule"]) (sc := (defScope (top 72))) (own := [("rule", 2)]) (by decide +kernel)) (fun _ _ _ _ _ => (pg_name (i := 2) sc.nd rfl (Or.inl rfl))) (fun _ _ _ _ _ => pts_nil) (fun _ _ _ _ _ => (pe_c c_is_rule hr (by omega) rfl (pa_cons (pv 2) (pa_cons (pv 1) pa_nil))))) pa_nil))))), ?_⟩
  obtain ⟨ds, d, ⟨rs, nms, hl, hrs, rfl, rfl⟩, hv, q⟩ := h
  obtain ⟨vr, vn, rfl, h1, h2⟩ := dpa_two hv
  show (_ : TS) _ [some vr, some vn, none] H
  refine q_when (b := false) (et_is (et_or (et_not (et_B (isi_lst (ed_var rfl h1)))) fun _ => et_test (ev_op (ev_lenL (ed_var rfl h1)) ev_c rv_I0)) (by rw [List.length_map, decide_eq_false (by omega)]; rfl)) (fun hb => by cases hb) fun _ H1 e1 => ?_
  have hC := ed_lcL (K := K) (σ := [some vr, some vn, none]) (H := H1) (enc := ruleD) (out := fun _ => .bool true) (ls := rs) (f := fun _ => true) (t := tYes) (g := gName 2) (te := tCall (spR K RIsRule) [] E0 (tCons (tVar 2) (tCons (tVar 1) tNil))) (tl := tVar 0) (vs := [2]) (ed_var rfl (dp_ex e1 h1)) (by omega) (fun _ _ _ => rfl)
    fun r hr v H3 e3 hd R kk => kk [some vr, some vn, some v] H3 (Ex.refl _) rfl et_yes fun _ => ed_call (eda_2 (ed_var rfl hd) (ed_var rfl (dp_ex (e1.trans e3) h2))) (spd_of ⟨r, nms, hrs r hr, rfl, rfl⟩)
  rw [filter_all, all_true] at hC
  refine s_retD (ed_cb (eda_1 hC) rc_all) fun v H2 e2 hv => q v H2 (e1.trans e2) ?_
  rw [all_id] at hv
  have ea : (rs.all fun _ => true) = true := List.all_eq_true.mpr fun _ _ => rfl
  rw [ea] at hv
  exact hv
end
end Fell

/-! FP10 -/
set_option Elab.async false
set_option linter.all false
set_option maxRecDepth 100000
set_option maxHeartbeats 4000000
/-! A book is made. -/
namespace Fell
open PySem PySem.Spec PyProof.Rows L2 Evl
theorem Mut.none {M a : Addr} {H H' : Hp} (m : Mut M H H') (n : a ≠ M) (h : H' a = none) : H a = none := by
  cases q : H a with
  | none => rfl
  | some o => rw [m a o n q] at h; cases h
theorem Qx.mutL {L : Addr} {H0 H H' : Hp} (q : Qx H0 H) (m : Mut L H H') (t : Tx H H') (h0 : H0 L = none) : Qx H0 H' := ⟨fun a xs r => by
  have na : a ≠ L := fun e => by
    rw [e] at r
    rcases r with r | ⟨ob, r⟩ <;> (rw [h0] at r; cases r)
  rcases q.1 a xs r with r5 | ⟨ob, r5⟩
  · exact .inl (m a _ na r5)
  · exact .inr ⟨ob, m a _ na r5⟩, q.2.trans t⟩
/-- kinds of which a book may be made -/
structure KsOk (ks : List Kind) : Prop where
  ok : BookOk ks
  nm : ∀ k ∈ ks, NameOk k.name
  rl : ∀ k ∈ ks, ∀ r ∈ k.rules, RuleOk NameOk r
section
variable {P : Program} {w : World} {K : KK} {mg : Str → Option Value} {base : Heap} {aO aS B bI : Addr}
def RTold (ds : List PyData) (fs : List PyData) : Prop := ∃ ks, KsOk ks ∧ ds = [.list (ks.map kindD)] ∧ fs = (names ks).map PyData.str
theorem names_get {ks : List Kind} {i : Nat} {k : Kind} (h : ks[i]? = some k) : (names ks)[i]? = some k.name := by rw [names, List.getElem?_map, h]; rfl
theorem nodup_take {l : List Str} (nd : l.Nodup) {i : Nat} {x : Str} (h : l[i]? = some x) : x ∉ l.take i := by
  have e : l.take (i + 1) = l.take i ++ [x] := take_snoc h
  have n2 : (l.take (i + 1)).Nodup := nd.sublist (List.take_sublist _ _)
  rw [e, List.nodup_append] at n2
  exact fun hm => n2.2.2 x hm x (List.mem_singleton.mpr rfl) rfl
theorem c_names_told (T : Txt K mg aO aS B bI) : Cal P w K mg base 2 "names_told" (spL K RTold) := by
  have c_is_name := c_is_name (P := P) (w := w) (base := base) T
  have sc : FnScope ["kinds", "names", "kind"] ["kinds"] (defScope (top 69)) := ⟨rfl, rfl, rfl, by decide +kernel, rfl, by decide +kernel, by decide +kernel⟩
  refine calD T.a_names_told sc (spL_len fun ds d ⟨_, _, e, _⟩ => by rw [e]; rfl) (fun _ _ _ _ _ _ us hl => match us, hl with | [_], _ => rfl) fun f cdv A outer s H vs Q E hr h => ?_
  refine ⟨_, (pss_cons (ps_set (i := 1) sc.nd rfl (Or.inl rfl) (pe_lst pa_nil))
    (pss_cons (ps_for PassesOwn.never rfl (show PI _ _ _ (iList K _) from (pi_list (pv 0))) (pg_name (i := 2) sc.nd rfl (Or.inl rfl))
      (pss_cons (ps_if (pt_bool (pw_or (pt_not (pt_val (pe_callB call_isi rfl T.n_isinstance b_isinstance (pa_cons (pv 2) (pa_cons (pe_bltn (v := .ty "tuple") rfl T.n_tuple b_tuple rfl) pa_nil))))) (pw_or (pt_cmpR op_ne (pe_callB (show CallR _ _ (rLenS K) from call_len_seq) rfl T.n_len b_len (pa_cons (pv 2) pa_nil)) pe_int (nomark _)) (pw_or (pt_not (pt_val (pe_c c_is_name hr (by omega) rfl (pa_cons (pe_ix (show IxR _ (rIxT K) from ix_tup) (pv 2) pe_int (fun _ _ => rfl)) pa_nil)))) (pw_or1 (pt_cmpR (show OpR _ _ (rIn K false) from op_in_seq) (pe_ix (show IxR _ (rIxT K) from ix_tup) (pv 2) pe_int (fun _ _ => rfl)) (pv 1) (by with_unfolding_all rfl))))))) (pss_one (ps_ret (pe_lst pa_nil))) pss_nil)
      (pss_one (ps_expr (show PE _ _ (tBM K _ _ _ _) from (pe_bm PySem.F.plainAttrs_list PySem.F.slot_list_append PySem.F.type_list_append mt_append (pv 1) (pa_cons (pe_ix (show IxR _ (rIxT K) from ix_tup) (pv 2) pe_int (fun _ _ => rfl)) pa_nil)))))))
    (pss_one (ps_ret (pv 1))))), ?_⟩
  obtain ⟨ds, fs, ⟨ks, ok, rfl, rfl⟩, hv, q⟩ := h
  obtain ⟨vk, rfl, h1⟩ := dpa_one hv
  show (_ : TS) _ [some vk, none, none] H
  have nl := names_len ok.ok
  have kl : ks.length ≤ 8 := ok.ok.few
  refine q_newL (K := K) fun L HL hL eL lL => ?_
  show (_ : TS) _ [some vk, some (.ref L), none] HL
  refine s_forLS (K := K) (H0 := H) (D := { nx := _, rt := _, bk := _, ct := _ }) (fs := ks.map kindD) rfl h1 (fun i σ' H' => Qx H H' ∧ Ex H H' ∧ ∃ x, σ' = [some vk, some (.ref L), x] ∧ LstAt K H' L (((names ks).take i).map PyData.str)) ⟨Ex.qx eL, eL, none, rfl, by rw [List.take_zero]; exact lL⟩ (fun i σ' H' pv => pv.1) ?_ ?_
  · rintro i d x σ' H' hd hx ⟨qx, eH, x0, rfl, lt⟩
    obtain ⟨k, hki, rfl⟩ := map_get hd
    have hk := List.mem_of_getElem? hki
    have hni := names_get hki
    have hi : i < ks.length := (List.getElem?_eq_some_iff.mp hki).1
    refine g_name ?_
    show (_ : TS) _ [some vk, some (.ref L), some x] H'
    let kd : List PyData := [.str k.name, .bool k.spr, .list (k.rules.map ruleD)]
    have hx' : Dp K H' x (.tuple kd) := hx
    refine q_when (b := false) (et_is (et_or (et_not (et_B (isi_tup (ds := kd) (ed_var rfl hx')))) fun _ => et_or (len_ne (n := 3) (ds := kd) (ed_var rfl hx') rfl) fun _ => et_or (et_not (a := true) (et_B (ev_bl (ed_call (eda_1 (d := .str k.name) (ed_at (i := 0) (ds := kd) (ed_var rfl hx') rfl)) (spd_of ⟨k.name, ok.nm k hk, rfl, rfl⟩))))) fun _ => et_test (ev_inS (x := k.name) (ed_at (i := 0) (ds := kd) (ed_var rfl hx') rfl) (ed_var rfl lt.dp))) ?_) (fun hb => by cases hb) fun _ H1 e1 => ?_
    · rw [decide_eq_false (nodup_take ok.ok.nd hni)]; rfl
    · refine s_appD (d := .str k.name) (lt.ex e1) (noLs_map fun _ => rfl) rfl (fun _ _ => ev_var rfl) (ed_at (i := 0) (ds := kd) (ed_var rfl (dp_ex e1 hx')) rfl) (by rw [List.length_map, List.length_take]; omega) fun H2 m2 l2 => ?_
      refine ⟨(qx.trans (Ex.qx e1)).mutL m2 ((lt.ex e1).tx m2) hL, m2.base hL (eH.trans e1), _, rfl, ?_⟩
      rw [take_snoc hni, List.map_append]
      exact l2
  · rintro σ' H' ⟨qx, eH, x0, rfl, lt⟩
    have e : (ks.map kindD).length = (names ks).length := by rw [List.length_map, names, List.length_map]
    rw [e, List.take_length] at lt
    exact ⟨.ref L, rfl, q L H' hL eH lt⟩
/-! ### __init__ -/
theorem DictAt.qx {H H' : Hp} {l M : Addr} {n : Nat} {S : Str → Prop} {f : Str → PyData → Prop} (h : DictAt K H l n S f) (m : Mut M H H') (ne : l ≠ M) (q : Qx H H') : DictAt K H' l n S f :=
  let ⟨kvs, h1, h2, h3⟩ := h
  ⟨kvs, m _ _ ne h1, h2, fun k hk => let ⟨v, d, a, b, c⟩ := h3 k hk; ⟨v, d, a, dp_qx q b, c⟩⟩
def spInit (K : KK) (B : Addr) : Sp := fun vs H Q _ => ∃ x v ks dx, vs = [.ref x, v] ∧ H x = some (.ins B dx []) ∧ Dp K H v (.list (ks.map kindD)) ∧ KsOk ks ∧ ∀ H2, Mut x H H2 → BookAt K B H2 x ks → Q .non H2
/-- self.f = te, the field new or not -/
theorem q_fld {σ : L2.St} {H : Hp} {ta te : TE} {D : Ends} {tz : TS} {x dx : Addr} {f : Str} {v : V} {fs : List (Str × V)} (h : ∀ Q : VK, (∀ H1, Ex H H1 → Q v H1) → te σ H Q) (ha : ∀ H1, Ex H H1 → Ev ta σ H1 (.ref x)) (hx : H x = some (.ins B dx fs)) (c : Cls K B) (na : NoAttr K B f) (hl : fs.length < 1000)
    (k : ∀ H1, Ex H H1 → tz D σ (upd H1 x (.ins B dx (putF f v fs)))) : tSeq (sFld K ta te f) tz D σ H := h _ fun H1 e1 => ha H1 e1 H1 (Ex.refl _) _ fun H2 e2 => ⟨x, B, dx, fs, rfl, (e1.trans e2) _ _ hx, c, na, hl, k H2 (e1.trans e2)⟩
theorem ev_fldI {σ : L2.St} {H : Hp} {ta : TE} {x dx : Addr} {f : Str} {v : V} {fs : List (Str × V)} (ha : Ev ta σ H (.ref x)) (hx : H x = some (.ins B dx fs)) (c : Cls K B) (na : NoAttr K B f) (hl : fs.lookup f = some v) : Ev (tFld K ta f) σ H v := fun H1 e Q q => ha H1 e _ fun H2 e2 => ⟨x, B, dx, fs, v, rfl, (e.trans e2) _ _ hx, c, na, hl, q H2 e2⟩
theorem upd_ins_tx {H : Hp} {x dx : Addr} {fs : List (Str × V)} {o : HO} (hx : H x = some (.ins B dx fs)) : Tx H (upd H x o) := tx_ins hx
theorem upd_ins_qx {H : Hp} {x dx : Addr} {fs : List (Str × V)} {o : HO} (hx : H x = some (.ins B dx fs)) : Qx H (upd H x o) := ⟨fun a xs r => by
  have na : a ≠ x := fun e => by
    rw [e] at r
    rcases r with r | ⟨ob, r⟩ <;> (rw [hx] at r; cases r)
  rcases r with r | ⟨ob, r⟩
  · exact .inl (by rw [upd_ne na]; exact r)
  · exact .inr ⟨ob, by rw [upd_ne na]; exact r⟩, tx_ins hx⟩
theorem k_Book (T : Txt K mg aO aS B bI) : Mak P w K mg base 13 "Book" B (spInit K B) := by
  have c_names_told := c_names_told (P := P) (w := w) (base := base) T
  have c_are_rules := c_are_rules (P := P) (w := w) (base := base) T
  obtain ⟨fd, FD⟩ := T.i_Book
  have sc : FnScope ["self", "kinds", "name", "spreading", "rules"] ["self", "kinds"] (defScope (inClass (top 73) 0)) := ⟨rfl, rfl, rfl, by decide +kernel, rfl, by decide +kernel, by decide +kernel⟩
  refine makD T.kB T.gB FD sc (fun vs H Q E ⟨_, _, _, _, e, _⟩ => by rw [e]; rfl) (fun _ _ _ _ _ _ us hl => match us, hl with | [_, _], _ => rfl) fun f cdv A outer s H vs Q E hr h => ?_
  refine ⟨_, (pss_cons (ps_fld (pv 0) (pe_c c_names_told hr (by omega) rfl (pa_cons (pv 1) pa_nil)) rfl)
    (pss_cons (ps_fld (pv 0) pe_dnewK rfl)
    (pss_cons (ps_fld (pv 0) pe_dnewK rfl)
    (pss_cons (ps_if (pt_bool (pw_or (pt_cmpR (show OpR _ _ (rEqD K) from (op_eqD hr.units)) (pe_fld (pv 0) rfl) (pe_lst pa_nil) (nomark _)) (pw_or1 (pt_cmpR op_gt (pe_callB (show CallR _ _ (rLenS K) from call_len_seq) rfl T.n_len b_len (pa_cons (pe_fld (pv 0) rfl) pa_nil)) (pe_gc rfl T.g_MOST_KINDS) (nomark _))))) (pss_one ps_never) pss_nil)
    (pss_one (ps_for PassesOwn.never rfl (show PI _ _ _ (iList K _) from (pi_list (pv 1))) (show PG _ _ (gTup K 3 _) from (pg_tup rfl (pgs_cons (pg_name (i := 2) sc.nd rfl (Or.inl rfl)) (pgs_cons (pg_name (i := 3) sc.nd rfl (Or.inl rfl)) (pgs_cons (pg_name (i := 4) sc.nd rfl (Or.inl rfl)) pgs_nil)))))
      (pss_cons (ps_if (pt_bool (pw_or (pt_not (pt_val (pe_callB call_isi rfl T.n_isinstance b_isinstance (pa_cons (pv 3) (pa_cons (pe_bltn (v := .ty "bool") rfl T.n_bool b_bool rfl) pa_nil))))) (pw_or1 (pt_not (pt_val (pe_c c_are_rules hr (by omega) rfl (pa_cons (pv 4) (pa_cons (pe_fld (pv 0) rfl) pa_nil)))))))) (pss_one ps_never) pss_nil)
      (pss_cons (ps_dput (hu_of hr) (pe_fld (pv 0) rfl) (pv 2) (pv 3) rfl)
      (pss_one (ps_dput (hu_of hr) (pe_fld (pv 0) rfl) (pv 2) (pe_callTy (show CallR _ _ (rListS K) from call_list_of) rfl T.n_list b_list (pa_cons (pv 4) pa_nil)) rfl)))))))))), ?_⟩
  obtain ⟨x, v, ks, dx, rfl, hx, h1, ok, q⟩ := h
  show (_ : TS) _ [some (.ref x), some v, none, none, none] H
  have nl := names_len ok.ok
  have kl : ks.length ≤ 8 := ok.ok.few
  have sg : ∀ n ∈ names ks, okS n := fun n hn => by
    obtain ⟨k, hk, rfl⟩ := List.mem_map.mp hn
    exact (ok.nm k hk).str
  -- self.told
  refine (ek_call (K := K) (R := RTold) (E := E0) (σ := [some (.ref x), some v, none, none, none]) (ta := tCons (tVar 1) tNil) (eda_1 (d := .list (ks.map kindD)) (ed_var rfl h1)) ⟨ks, ok, rfl, rfl⟩) H (Ex.refl _) _ fun lt H1 hlt e1 ll => ?_
  refine ⟨_, rfl, x, B, dx, [], rfl, e1 _ _ hx, T.cB, T.f_told, by decide, ?_⟩
  have hltx : lt ≠ x := fun e => by rw [e, hx] at hlt; cases hlt
  have hx1 := e1 _ _ hx
  have q1 : Qx H (upd H1 x (.ins B dx [("told", .ref lt)])) := (Ex.qx e1).trans (upd_ins_qx hx1)
  have m1 : Mut x H (upd H1 x (.ins B dx [("told", .ref lt)])) := .exl e1 .upd
  have l1 : LstAt K (upd H1 x (.ins B dx [("told", .ref lt)])) lt ((names ks).map PyData.str) := ll.other (.upd) (upd_ins_tx hx1) hltx (noLs_map fun _ => rfl)
  have hx2 : (upd H1 x (.ins B dx [("told", .ref lt)])) x = some (.ins B dx [("told", .ref lt)]) := upd_same
  show tSeq _ _ _ _ (upd H1 x (.ins B dx [("told", .ref lt)]))
  revert q1 m1 l1 hx2
  generalize upd H1 x (.ins B dx [("told", .ref lt)]) = H2
  intro q1 m1 l1 hx2
  -- self.wide
  refine fun wd hwd => ⟨_, rfl, x, B, dx, _, rfl, (Ex.new hwd) _ _ hx2, T.cB, T.f_wide, (by show 1 < 1000; decide), ?_⟩
  have hwx : wd ≠ x := fun e => by rw [e, hx2] at hwd; cases hwd
  have hwd0 : H wd = none := m1.none hwx hwd
  have n2 : Ex H2 (upd H2 wd (.dK [])) := Ex.new hwd
  have w2 : (upd H2 wd (.dK [])) wd = some (.dK []) := upd_same
  revert n2 w2
  generalize upd H2 wd (.dK []) = H3
  intro n2 w2
  have hx3 := n2 _ _ hx2
  have q3 : Qx H (upd H3 x (.ins B dx [("told", .ref lt), ("wide", .ref wd)])) := (q1.trans (Ex.qx n2)).trans (upd_ins_qx hx3)
  have m3 : Mut x H (upd H3 x (.ins B dx [("told", .ref lt), ("wide", .ref wd)])) := (m1.exr n2).trans .upd
  have l3 : LstAt K (upd H3 x (.ins B dx [("told", .ref lt), ("wide", .ref wd)])) lt ((names ks).map PyData.str) := (l1.ex n2).other (.upd) (upd_ins_tx hx3) hltx (noLs_map fun _ => rfl)
  have hx4 : (upd H3 x (.ins B dx [("told", .ref lt), ("wide", .ref wd)])) x = some (.ins B dx [("told", .ref lt), ("wide", .ref wd)]) := upd_same
  have w4 : (upd H3 x (.ins B dx [("told", .ref lt), ("wide", .ref wd)])) wd = some (.dK []) := by rw [upd_ne hwx]; exact w2
  show tSeq _ _ _ _ (upd H3 x (.ins B dx [("told", .ref lt), ("wide", .ref wd)]))
  revert q3 m3 l3 hx4 w4
  generalize upd H3 x (.ins B dx [("told", .ref lt), ("wide", .ref wd)]) = H4
  intro q3 m3 l3 hx4 w4
  -- self.ways
  refine fun ys hys => ⟨_, rfl, x, B, dx, _, rfl, (Ex.new hys) _ _ hx4, T.cB, T.f_ways, (by show 2 < 1000; decide), ?_⟩
  have hyx : ys ≠ x := fun e => by rw [e, hx4] at hys; cases hys
  have hyw : wd ≠ ys := fun e => by rw [← e, w4] at hys; cases hys
  have hys0 : H ys = none := m3.none hyx hys
  have n4 : Ex H4 (upd H4 ys (.dK [])) := Ex.new hys
  have y4 : (upd H4 ys (.dK [])) ys = some (.dK []) := upd_same
  revert n4 y4
  generalize upd H4 ys (.dK []) = H5
  intro n4 y4
  have hx5 := n4 _ _ hx4
  let fin : HO := .ins B dx [("told", .ref lt), ("wide", .ref wd), ("ways", .ref ys)]
  have q5 : Qx H (upd H5 x fin) := (q3.trans (Ex.qx n4)).trans (upd_ins_qx hx5)
  have m5 : Mut x H (upd H5 x fin) := (m3.exr n4).trans .upd
  have l5 : LstAt K (upd H5 x fin) lt ((names ks).map PyData.str) := (l3.ex n4).other (.upd) (upd_ins_tx hx5) hltx (noLs_map fun _ => rfl)
  have hx6 : (upd H5 x fin) x = some fin := upd_same
  have w6 : (upd H5 x fin) wd = some (.dK []) := by rw [upd_ne hwx]; exact n4 _ _ w4
  have y6 : (upd H5 x fin) ys = some (.dK []) := by rw [upd_ne hyx]; exact y4
  show tSeq _ _ _ _ (upd H5 x fin)
  revert q5 m5 l5 hx6 w6 y6
  generalize upd H5 x fin = H6
  intro q5 m5 l5 hx6 w6 y6
  have told : ∀ {σ : L2.St} {H7 : Hp}, σ[0]? = some (some (.ref x)) → H7 x = some fin → LstAt K H7 lt ((names ks).map PyData.str) → EvD K (tFld K (tVar 0) "told") σ H7 (.list ((names ks).map PyData.str)) := fun hs hf l7 => ed_evx (ev_fldI (ev_var hs) hf T.cB T.f_told rfl) l7.dp
  refine q_when (b := false) (et_is (et_or (et_test (ev_eqD (d := .list ((names ks).map PyData.str)) (d' := .list []) (told rfl hx6 l5) ed_nilL (shaped_strs sg) shaped_nilL)) fun _ => et_test (ev_op (ev_lenL (told rfl hx6 l5)) ev_c rv_I0)) ?_) (fun hb => by cases hb) fun _ H7 e7 => ?_
  · have n0 : (names ks).map PyData.str ≠ [] := fun e => ok.ok.pos (List.map_eq_nil_iff.mp (List.map_eq_nil_iff.mp e))
    rw [eqv_nilL, decide_eq_false n0, List.length_map, decide_eq_false (by omega)]; rfl
  refine s_forLS (K := K) (H0 := H) (D := { nx := _, rt := _, bk := _, ct := _ }) (fs := ks.map kindD) rfl h1 (fun i σ' H' => Qx H H' ∧ Mut x H H' ∧ (∃ a b c, σ' = [some (.ref x), some v, a, b, c]) ∧ H' x = some fin ∧ LstAt K H' lt ((names ks).map PyData.str) ∧ DictAt K H' wd i (· ∈ (names ks).take i) (fun k d => d = .bool (sprOf ks k)) ∧ DictAt K H' ys i (· ∈ (names ks).take i) (fun k d => d = .list ((rulesOf ks k).map ruleD)))
    ⟨q5.trans (Ex.qx e7), m5.exr e7, ⟨_, _, _, rfl⟩, e7 _ _ hx6, l5.ex e7, ⟨[], e7 _ _ w6, Nat.le_refl _, fun k hk => by rw [List.take_zero] at hk; cases hk⟩, ⟨[], e7 _ _ y6, Nat.le_refl _, fun k hk => by rw [List.take_zero] at hk; cases hk⟩⟩ (fun i σ' H' pv => pv.1) ?_ ?_
  · rintro i d xk σ' H' hd hxk ⟨qx, mx, ⟨a0, b0, c0, rfl⟩, hfin, lt', dw, dy⟩
    obtain ⟨k, hki, rfl⟩ := map_get hd
    have hk := List.mem_of_getElem? hki
    have hni := names_get hki
    have hi : i < ks.length := (List.getElem?_eq_some_iff.mp hki).1
    refine g_three (d := .str k.name) (d' := .bool k.spr) (d'' := .list (k.rules.map ruleD)) hxk fun w1 w2 w3 f1 f2 f3 => ?_
    have hw1 := dp_str f1
    have hw2 := dp_bl f2
    subst hw1 hw2
    show (_ : TS) _ [some (.ref x), some v, some (.str k.name), some (.bl k.spr), some w3] H'
    have hrules : ∀ r ∈ k.rules, RlOk (names ks) r := fun r hr => ⟨(ok.ok.rules k hk).2 r hr, ok.rl k hk r hr⟩
    refine q_when (b := false) (et_is (et_or (et_not (et_B (isi_bool (x := k.spr) (ed_var rfl (.bl _))))) fun _ => et_not (a := true) (et_B (ev_bl (ed_call (eda_2 (d := .list (k.rules.map ruleD)) (ed_var rfl f3) (told rfl hfin lt')) (spd_of ⟨k.rules, names ks, (ok.ok.rules k hk).1, hrules, rfl, rfl⟩))))) rfl) (fun hb => by cases hb) fun _ H8 e8 => ?_
    have wdE : ∀ {H9 : Hp}, H9 x = some fin → Ev (tFld K (tVar 0) "wide") [some (.ref x), some v, some (.str k.name), some (.bl k.spr), some w3] H9 (.ref wd) := fun hf => ev_fldI (ev_var rfl) hf T.cB T.f_wide rfl
    have ysE : ∀ {H9 : Hp}, H9 x = some fin → Ev (tFld K (tVar 0) "ways") [some (.ref x), some v, some (.str k.name), some (.bl k.spr), some w3] H9 (.ref ys) := fun hf => ev_fldI (ev_var rfl) hf T.cB T.f_ways rfl
    have hf8 := e8 _ _ hfin
    refine s_dputD (K := K) (D := { nx := _, rt := _, bk := _, ct := _ }) (x := k.name) (Pst := fun d => d = .bool k.spr) (dw.ex e8) (EvD.toP (ed_var rfl (.bl k.spr)) rfl) (fun H9 e9 => wdE (e9 _ _ hf8)) (fun _ _ => ed_var rfl (.str _)) (fun d e => by rw [e, sprOf_at ok.ok.nd hk]) (by omega) fun H9 m9 d9 => ?_
    obtain ⟨kw, hkw, _⟩ := dw.ex e8
    have q9 := m9.qxd hkw
    have hf9 : H9 x = some fin := m9 _ _ (Ne.symm hwx) hf8
    have dy9 := (dy.ex e8).qx m9 (Ne.symm hyw) q9
    have lt9 : LstAt K H9 lt ((names ks).map PyData.str) := by
      obtain ⟨xs, a, b⟩ := lt'.ex e8
      exact ⟨xs, m9 _ _ (fun e => by rw [e, hkw] at a; cases a) a, dpa_qx q9 b⟩
    refine s_dputD (K := K) (x := k.name) (Pst := fun d => d = .list (k.rules.map ruleD)) dy9 (EvD.toP (EvF.d0 (ek_listL (ed_var rfl (dp_qx q9 (dp_ex e8 f3))))) rfl) (fun H10 e10 => ysE (e10 _ _ hf9)) (fun _ _ => ed_var rfl (.str _)) (fun d e => by rw [e, rulesOf_at ok.ok.nd hk]) (by omega) fun H10 m10 d10 => ?_
    obtain ⟨ky, hky, _⟩ := dy9
    have q10 := m10.qxd hky
    have sn : ∀ z, z ∈ (names ks).take (i + 1) → z ∈ (names ks).take i ∨ z = k.name := fun z hz => by
      rw [take_snoc hni] at hz
      exact (List.mem_append.mp hz).imp id List.mem_singleton.mp
    refine ⟨((qx.trans (Ex.qx e8)).trans q9).trans q10, ?_, ⟨_, _, _, rfl⟩, m10 _ _ (Ne.symm hyx) hf9, ?_, (d9.sub sn).qx m10 hyw q10, d10.sub sn⟩
    · intro a o na ha
      have h8 := e8 _ _ (mx a o na ha)
      have h9 := m9 a o (fun e => by rw [e, hwd0] at ha; cases ha) h8
      exact m10 a o (fun e => by rw [e, hys0] at ha; cases ha) h9
    · obtain ⟨xs, a, b⟩ := lt9
      exact ⟨xs, m10 _ _ (fun e => by rw [e, hky] at a; cases a) a, dpa_qx q10 b⟩
  · rintro σ' H' ⟨qx, mx, ⟨a0, b0, c0, rfl⟩, hfin, lt', dw, dy⟩
    have e : (ks.map kindD).length = (names ks).length := by rw [List.length_map, names, List.length_map]
    rw [e, List.take_length] at dw dy
    refine q H' mx ⟨⟨dx, lt, wd, ys, hfin, ?_, ?_, ?_⟩, ok.ok, sg⟩
    · obtain ⟨xs, a, b⟩ := lt'
      rw [dpa_strs_eq b] at a
      exact a
    · obtain ⟨a, b, c, d⟩ := dw; exact ⟨a, b, by omega, d⟩
    · obtain ⟨a, b, c, d⟩ := dy; exact ⟨a, b, by omega, d⟩
end
end Fell

/-! FM5 -/
set_option autoImplicit false
set_option linter.all false
/-! Plain Lean: what is reached by steps. -/
namespace Fell
open PySem
inductive Rc (bk : List Kind) (n : Str) : Str → Prop where
  | one {k : Str} (h : k ∈ succ bk n) : Rc bk n k
  | step {m k : Str} (h : Rc bk n m) (s : k ∈ succ bk m) : Rc bk n k
theorem Rc.trans {bk : List Kind} {a b c : Str} (h : Rc bk a b) (g : Rc bk b c) : Rc bk a c := by
  induction g with
  | one s => exact .step h s
  | step _ s ih => exact .step ih s
theorem Rc.first {bk : List Kind} {a c : Str} (h : Rc bk a c) : ∃ k ∈ succ bk a, k = c ∨ Rc bk k c := by
  induction h with
  | one s => exact ⟨_, s, .inl rfl⟩
  | step _ s ih =>
    obtain ⟨k, hk, h⟩ := ih
    refine ⟨k, hk, .inr ?_⟩
    rcases h with rfl | h
    · exact .one s
    · exact .step h s
/-- leads to itself, or to such a one -/
def Loops (bk : List Kind) (n : Str) : Prop := ∃ m, (m = n ∨ Rc bk n m) ∧ Rc bk m m
theorem filter_lt {α : Type} {f g : α → Bool} : ∀ {l : List α}, (∀ a ∈ l, f a = true → g a = true) → (∃ a ∈ l, g a = true ∧ f a = false) → (l.filter f).length < (l.filter g).length
  | [], _, ⟨a, ha, _⟩ => nomatch ha
  | x :: l, h, ⟨a, ha, hg, hf⟩ => by
    have hle : (l.filter f).length ≤ (l.filter g).length := by
      have : ∀ l : List α, (∀ a ∈ l, f a = true → g a = true) → (l.filter f).length ≤ (l.filter g).length := fun l => by
        induction l with
        | nil => intro _; exact Nat.le_refl _
        | cons y l ih =>
          intro h
          have i := ih fun a ha => h a (List.mem_cons_of_mem _ ha)
          have hy := h y List.mem_cons_self
          rw [List.filter_cons, List.filter_cons]
          cases hf : f y with
          | true => rw [if_pos rfl, if_pos (hy hf), List.length_cons, List.length_cons]; omega
          | false =>
            rw [if_neg (by decide)]
            split
            · rw [List.length_cons]; omega
            · exact i
      exact this l fun a ha => h a (List.mem_cons_of_mem _ ha)
    rw [List.filter_cons, List.filter_cons]
    rcases List.mem_cons.mp ha with rfl | ha
    · rw [if_neg (by rw [hf]; decide), if_pos hg, List.length_cons]; omega
    · have i := filter_lt (f := f) (g := g) (fun a ha => h a (List.mem_cons_of_mem _ ha)) ⟨a, ha, hg, hf⟩
      cases hfx : f x with
      | true => rw [if_pos rfl, if_pos (h x List.mem_cons_self hfx), List.length_cons, List.length_cons]; omega
      | false =>
        rw [if_neg (by decide)]
        split
        · rw [List.length_cons]; omega
        · exact i
open Classical in
/-- from a set that can be stayed in one gets to a loop -/
theorem loops_of {bk : List Kind} {S : List Str} (hS : ∀ n ∈ S, ∃ k ∈ succ bk n, k ∈ S) : ∀ {n : Str}, n ∈ S → Loops bk n := by
  have key : ∀ (j : Nat) (n : Str), n ∈ S → (S.filter fun z => decide (Rc bk n z)).length ≤ j → Loops bk n := fun j => by
    induction j with
    | zero =>
      intro n hn hl
      obtain ⟨k, hk, hkS⟩ := hS n hn
      have : k ∈ S.filter fun z => decide (Rc bk n z) := List.mem_filter.mpr ⟨hkS, decide_eq_true (.one hk)⟩
      have := List.length_pos_of_mem this
      omega
    | succ j ih =>
      intro n hn hl
      obtain ⟨k, hk, hkS⟩ := hS n hn
      by_cases hkk : Rc bk k k
      · exact ⟨k, .inr (.one hk), hkk⟩
      · have hlt := filter_lt (f := fun z => decide (Rc bk k z)) (g := fun z => decide (Rc bk n z)) (l := S) (fun a _ h => decide_eq_true (Rc.trans (.one hk) (of_decide_eq_true h))) ⟨k, hkS, decide_eq_true (.one hk), decide_eq_false hkk⟩
        obtain ⟨m, hm, hmm⟩ := ih k hkS (by omega)
        refine ⟨m, .inr ?_, hmm⟩
        rcases hm with rfl | hm
        · exact .one hk
        · exact Rc.trans (.one hk) hm
  exact fun {n} hn => key _ n hn (Nat.le_refl _)
/-- the loops are a set that can be stayed in -/
theorem loops_step {bk : List Kind} {n : Str} (h : Loops bk n) : ∃ k ∈ succ bk n, Loops bk k := by
  obtain ⟨m, hm, hmm⟩ := h
  rcases hm with rfl | hm
  · obtain ⟨k, hk, h⟩ := hmm.first
    refine ⟨k, hk, ?_⟩
    rcases h with rfl | h
    · exact ⟨_, .inl rfl, hmm⟩
    · exact ⟨m, .inr h, hmm⟩
  · obtain ⟨k, hk, h⟩ := hm.first
    refine ⟨k, hk, ?_⟩
    rcases h with rfl | h
    · exact ⟨_, .inl rfl, hmm⟩
    · exact ⟨m, .inr h, hmm⟩
/-- how many of l are not in F -/
def unf (l F : List Str) : Nat := (l.filter fun n => !decide (n ∈ F)).length
theorem unf_le {l F G : List Str} (h : ∀ k ∈ F, k ∈ G) : unf l G ≤ unf l F := by
  have : ∀ l : List Str, (l.filter fun n => !decide (n ∈ G)).length ≤ (l.filter fun n => !decide (n ∈ F)).length := fun l => by
    induction l with
    | nil => exact Nat.le_refl _
    | cons y l ih =>
      rw [List.filter_cons, List.filter_cons]
      by_cases hF : y ∈ F
      · have hG := h y hF
        rw [if_neg (by simp [hG]), if_neg (by simp [hF])]; exact ih
      · rw [if_pos (c := (!decide (y ∈ F)) = true) (by simp [hF]), List.length_cons]
        split
        · rw [List.length_cons]; omega
        · omega
  exact this l
theorem unf_lt {l F G : List Str} (h : ∀ k ∈ F, k ∈ G) {k : Str} (hl : k ∈ l) (hF : k ∉ F) (hG : k ∈ G) : unf l G < unf l F :=
  filter_lt (fun a _ ha => by
    have : a ∉ G := by simpa using ha
    have : a ∉ F := fun e => this (h a e)
    simpa using this) ⟨k, hl, by simpa using hF, by simpa using hG⟩
theorem unf_all (l F : List Str) : unf l F ≤ l.length := List.length_filter_le _ _
end Fell

/-! FP11 -/
set_option Elab.async false
set_option linter.all false
set_option maxRecDepth 100000
set_option maxHeartbeats 4000000
/-! The law's own look: what is reached, what is endless. -/
namespace Fell
open PySem PySem.Spec PyProof.Rows L2 Evl
section
variable {P : Program} {w : World} {K : KK} {mg : Str → Option Value} {base : Heap} {aO aS B bI : Addr}
def RStands (n : Nat) (ds : List PyData) (fs : List PyData) : Prop := ∃ g : Grv, g.dep < n ∧ g.parts ≤ 10 ∧ ds = [g.d] ∧ fs = g.stands.map PyData.str
theorem c__law_stands (T : Txt K mg aO aS B bI) : ∀ n, Cal P w K mg base n "_law_stands" (spL K (RStands n))
  | 0 => calN (ps := ["_law_grove_here"]) T.a__law_stands (fun vs H Q E ⟨_, _, ⟨_, h, _⟩, _⟩ => absurd h (Nat.not_lt_zero _)) (fun _ _ _ _ _ _ us hl => match us, hl with | [_], _ => rfl)
  | n + 1 => by
    have c__law_stands := c__law_stands T n
    have sc : FnScope ["_law_grove_here", "_law_found", "_law_tree", "_law_many"] ["_law_grove_here"] (defScope (top 83)) := ⟨rfl, rfl, rfl, by decide +kernel, rfl, by decide +kernel, by decide +kernel⟩
    refine calD T.a__law_stands sc (spL_len fun ds d ⟨_, _, _, e, _⟩ => by rw [e]; rfl) (fun _ _ _ _ _ _ us hl => match us, hl with | [_], _ => rfl) fun f cdv A outer s H vs Q E hr h => ?_
    refine ⟨_, (pss_cons (ps_set (i := 1) sc.nd rfl (Or.inl rfl) (pe_lst pa_nil))
    (pss_cons (ps_for PassesOwn.never rfl (show PI _ _ _ (iTup K _) from (pi_tup (pv 0))) (show PG _ _ (gTup K 2 _) from (pg_tup rfl (pgs_cons (pg_name (i := 2) sc.nd rfl (Or.inl rfl)) (pgs_cons (pg_name (i := 3) sc.nd rfl (Or.inl rfl)) pgs_nil))))
      (pss_one (ps_set (i := 1) sc.nd rfl (Or.inl rfl) (pe_op op_cat (pe_op op_cat (pv 1) (pe_lst (pa_cons (pe_ix (show IxR _ (rIxT K) from ix_tup) (pv 2) pe_int (fun _ _ => rfl)) pa_nil))) (pe_c c__law_stands hr (by omega) rfl (pa_cons (pe_ix (show IxR _ (rIxT K) from ix_tup) (pv 2) pe_int (fun _ _ => rfl)) pa_nil))))))
    (pss_one (ps_ret (pv 1))))), ?_⟩
    obtain ⟨ds, fs, ⟨g, hd, hp, rfl, rfl⟩, hv, q⟩ := h
    obtain ⟨vg, rfl, h1⟩ := dpa_one hv
    show (_ : TS) _ [some vg, none, none, none] H
    have hsl := g.stands_length
    refine q_newL (K := K) fun L HL hL eL lL => ?_
    show (_ : TS) _ [some vg, some (.ref L), none, none] HL
    refine s_forTD (K := K) (D := { nx := _, rt := _, bk := _, ct := _ }) (ds := g.ds) (ed_var rfl (dp_ex eL h1)) (nol_grvs g) (fun H1 i σ' H' => Ex H1 H' ∧ Ex H H1 ∧ ∃ (L : Addr) (W : List Str) (x y : Option V), σ' = [some vg, some (.ref L), x, y] ∧ H L = none ∧ LstAt K H' L (W.map PyData.str) ∧ g.stands = W ++ (g.drop i).stands)
      (fun H1 e1 => ⟨Ex.refl _, eL.trans e1, L, [], none, none, rfl, hL, lL.ex e1, by rw [gdrop0]; rfl⟩) (fun H1 i σ' H' pv => tx_ex pv.1) ?_ ?_
    · rintro H1 e1 i d x σ' H' hdd hx ⟨e2, eH, L, W, x0, y0, rfl, hL, lw, hs⟩
      obtain ⟨⟨⟨k, g'⟩, m⟩, hp', rfl⟩ := gds_get hdd
      obtain ⟨m1, m2, _, _⟩ := Grv.mem_facts (gmem hp')
      simp only at m1 m2
      rw [gdrop_get hp'] at hs
      have hWl : W.length ≤ 10 := by
        have := congrArg List.length hs
        rw [List.length_append] at this
        omega
      have hsl' := g'.stands_length
      refine g_two (d := Grv.trD (k, g')) (d' := .int m) hx fun w1 w2 f1 f2 => ?_
      show (_ : TS) _ [some vg, some (.ref L), some w1, some w2] H'
      refine (ek_cat (fs := W.map PyData.str ++ [.str k]) (es := g'.stands.map PyData.str) (EvF.k (ek_cat (ek_var rfl lw) (EvF.k (ek_lst (eda_1 (d := .str k) (ed_at (i := 0) (ed_var rfl f1) rfl)) sz1)) (by rw [List.length_map, List.length_singleton]; omega))) (EvF.k (ek_call (eda_1 (d := g'.d) (ed_at (i := 1) (ed_var rfl f1) rfl)) ⟨g', by omega, by omega, rfl, rfl⟩)) (by rw [List.length_append, List.length_map, List.length_map, List.length_singleton]; omega)) H' (Ex.refl _) _ fun p H2 hp e3 lp => ?_
      refine ⟨e2.trans e3, eH, p, W ++ [k] ++ g'.stands, some w1, some w2, rfl, fresh_back (eH.trans e2) hp, by rw [List.map_append, List.map_append]; exact lp, ?_⟩
      rw [hs, Grv.stands]
      simp
    · rintro H1 e1 σ' H' ⟨e2, eH, L, W, x0, y0, rfl, hL, lw, hs⟩
      rw [Grv.ds_length, gdrop_end (Nat.le_refl _), Grv.stands, List.append_nil] at hs
      rw [hs] at q
      exact ⟨.ref L, rfl, q L H' hL (eH.trans e2) lw⟩
/-- the state of the worklist: z is under way -/
structure ReP (K : KK) (ks : List Kind) (n : Str) (H : Hp) (z : Option Str) (m0 : Nat) (F W : List Str) (lf lw : Addr) (H' : Hp) : Prop where
  qx : Qx H H'
  ex : Ex H H'
  lF : LstAt K H' lf (F.map PyData.str)
  lW : LstAt K H' lw (W.map PyData.str)
  ne : lf ≠ lw
  f0 : H lf = none
  w0 : H lw = none
  rc : ∀ k ∈ F, Rc ks n k
  wf : ∀ k ∈ W, k = n ∨ k ∈ F
  cl : ∀ y, (y = n ∨ y ∈ F) → some y ≠ z → y ∈ W ∨ ∀ k ∈ succ ks y, k ∈ F
  b1 : F.length + 2 * unf (names ks) F ≤ 2 * (names ks).length
  b2 : W.length ≤ F.length + 1
  me : 3 * unf (names ks) F + W.length ≤ m0
section
variable {ks : List Kind} {n : Str} {H H' H2 H3 : Hp} {z : Option Str} {m0 : Nat} {F W M : List Str} {lf lw lf' lw' : Addr}
theorem ReP.mv (p : ReP K ks n H z m0 F W lf lw H') (e : Ex H' H2) : ReP K ks n H z m0 F W lf lw H2 := { p with qx := p.qx.trans (Ex.qx e), ex := p.ex.trans e, lF := p.lF.ex e, lW := p.lW.ex e }
theorem ReP.add (p : ReP K ks n H z m0 F W lf lw H') (e : Ex H' H2) (l1 : LstAt K H2 lf' ((F ++ M).map PyData.str)) (l2 : LstAt K H2 lw' ((W ++ M).map PyData.str)) (ne : lf' ≠ lw') (f0 : H lf' = none) (w0 : H lw' = none) (hM : ∀ k ∈ M, k ∈ names ks ∧ k ∉ F ∧ Rc ks n k) (hl : M.length ≤ 2) : ReP K ks n H z m0 (F ++ M) (W ++ M) lf' lw' H2 := by
  have hun : unf (names ks) (F ++ M) ≤ unf (names ks) F := unf_le fun k hk => List.mem_append_left _ hk
  have hlt : M ≠ [] → unf (names ks) (F ++ M) < unf (names ks) F := fun h => by
    obtain ⟨k, hk⟩ := List.exists_mem_of_ne_nil M h
    exact unf_lt (fun k hk => List.mem_append_left _ hk) (hM k hk).1 (hM k hk).2.1 (List.mem_append_right _ hk)
  have b1 := p.b1
  have b2 := p.b2
  have me := p.me
  have c1 : M = [] ∨ unf (names ks) (F ++ M) < unf (names ks) F := by
    by_cases h : M = []
    · exact .inl h
    · exact .inr (hlt h)
  refine { qx := p.qx.trans (Ex.qx e), ex := p.ex.trans e, lF := l1, lW := l2, ne := ne, f0 := f0, w0 := w0, rc := fun k hk => ?_, wf := fun k hk => ?_, cl := fun y hy hz => ?_, b1 := ?_, b2 := ?_, me := ?_ }
  · rcases List.mem_append.mp hk with hk | hk
    · exact p.rc k hk
    · exact (hM k hk).2.2
  · rcases List.mem_append.mp hk with hk | hk
    · exact (p.wf k hk).imp id fun h => List.mem_append_left _ h
    · exact .inr (List.mem_append_right _ hk)
  · have old : (y = n ∨ y ∈ F) → y ∈ W ++ M ∨ ∀ k ∈ succ ks y, k ∈ F ++ M := fun h => (p.cl y h hz).imp (fun h => List.mem_append_left _ h) fun h k hk => List.mem_append_left _ (h k hk)
    rcases hy with hy | hy
    · exact old (.inl hy)
    · rcases List.mem_append.mp hy with hy | hy
      · exact old (.inr hy)
      · exact .inl (List.mem_append_right _ hy)
  · rw [List.length_append]
    rcases c1 with h | h
    · subst h; simp at hun ⊢; omega
    · omega
  · rw [List.length_append, List.length_append]; omega
  · rw [List.length_append]
    rcases c1 with h | h
    · subst h; simp at hun ⊢; omega
    · omega
end
theorem rc_names {ks : List Kind} (ok : BookOk ks) {n k : Str} (h : Rc ks n k) : k ∈ names ks := by
  cases h with
  | one s => exact ok.succ s
  | step _ s => exact ok.succ s
/-- called with kinds and a name -/
def spReach (K : KK) : Sp := fun vs H Q _ => ∃ v n ks, vs = [v, .str n] ∧ Dp K H v (.list (ks.map kindD)) ∧ BookOk ks ∧ (∀ n ∈ names ks, okS n) ∧ n ∈ names ks ∧ ∀ (F : List Str) p H2, (∀ k, k ∈ F ↔ Rc ks n k) → F.length ≤ 16 → H p = none → Ex H H2 → LstAt K H2 p (F.map PyData.str) → Q (.ref p) H2
theorem s_asgF {σ : L2.St} {H : Hp} {te : TE} {fs : List PyData} {D : Ends} {i : Nat} (h : EvF K te σ H fs) (k : ∀ p H1, H p = none → Ex H H1 → LstAt K H1 p fs → D.nx (σ.set i (some (.ref p))) H1) : tAsg te (gName i) D σ H := h H (Ex.refl H) _ k
theorem q_asgF {σ : L2.St} {H : Hp} {te : TE} {fs : List PyData} {D : Ends} {tz : TS} {i : Nat} (h : EvF K te σ H fs) (k : ∀ p H1, H p = none → Ex H H1 → LstAt K H1 p fs → tz D (σ.set i (some (.ref p))) H1) : tSeq (tAsg te (gName i)) tz D σ H := h H (Ex.refl H) _ k
theorem c__law_reached (T : Txt K mg aO aS B bI) : Cal P w K mg base 4 "_law_reached" (spReach K) := by
  have c__law_stands := c__law_stands (P := P) (w := w) (base := base) T 3
  have sc : FnScope ["_law_kinds_here", "_law_name", "_law_found", "_law_waiting", "_law_here", "_law_kind", "_law_spreading", "_law_told", "_law_once", "_law_each", "_law_more", "_law_other"] ["_law_kinds_here", "_law_name"] (defScope (top 84)) := ⟨rfl, rfl, rfl, by decide +kernel, rfl, by decide +kernel, by decide +kernel⟩
  refine calD T.a__law_reached sc (fun vs H Q E ⟨_, _, _, e, _⟩ => by rw [e]; rfl) (fun _ _ _ _ _ _ us hl => match us, hl with | [_, _], _ => rfl) fun f cdv A outer s H vs Q E hr h => ?_
  refine ⟨_, (pss_cons (ps_set (i := 2) sc.nd rfl (Or.inr rfl) (pe_lst pa_nil))
    (pss_cons (ps_set (i := 3) sc.nd rfl (Or.inl rfl) (pe_lst (pa_cons (pv 1) pa_nil)))
    (pss_cons (ps_while PassesOwn.never (pt_cmpR (show OpR _ _ (rNeD K) from (op_neD hr.units)) (pv 3) (pe_lst pa_nil) (nomark _))
      (pss_cons (ps_set (i := 4) sc.nd rfl (Or.inl rfl) (pe_bm0 PySem.F.plainAttrs_list PySem.F.slot_list_pop PySem.F.type_list_pop mt_pop (pv 3)))
      (pss_one (ps_for PassesOwn.never rfl (show PI _ _ _ (iList K _) from (pi_list (pv 0))) (show PG _ _ (gTup K 3 _) from (pg_tup rfl (pgs_cons (pg_name (i := 5) sc.nd rfl (Or.inl rfl)) (pgs_cons (pg_name (i := 6) sc.nd rfl (Or.inl rfl)) (pgs_cons (pg_name (i := 7) sc.nd rfl (Or.inl rfl)) pgs_nil)))))
        (pss_one (ps_if (pt_cmpR op_eq (pv 5) (pv 4) (nomark _)) (pss_one (ps_for PassesOwn.never rfl (show PI _ _ _ (iList K _) from (pi_list (pv 7))) (show PG _ _ (gTup K 2 _) from (pg_tup rfl (pgs_cons (pg_name (i := 8) sc.nd rfl (Or.inl rfl)) (pgs_cons (pg_name (i := 9) sc.nd rfl (Or.inl rfl)) pgs_nil))))
            (pss_cons (ps_setLc (i := 10) rfl sc.nd rfl rfl (sw_true rfl rfl rfl rfl) (show PI _ _ _ (iList K _) from (pi_list (pe_op op_cat (pe_c c__law_stands hr (by omega) rfl (pa_cons (pv 8) pa_nil)) (pe_c c__law_stands hr (by omega) rfl (pa_cons (pv 9) pa_nil))))) (blkOk_by (N := ["_law_kinds_here", "_law_name", "_law_found", "_law_waiting", "_law_here", "_law_kind", "_law_spreading", "_law_told", "_law_once", "_law_each", "_law_more", "_law_other"]) (sc := (defScope (top 84))) (own := [("_law_other", 11)]) (by decide +kernel)) (fun _ _ _ _ _ => (pg_name (i := 11) sc.nd rfl (Or.inl rfl))) (fun _ _ _ _ _ => pts_one (pt_cmpR (show OpR _ _ (rIn K true) from op_notIn_seq) (pv 11) (pv 2) (by with_unfolding_all rfl))) (fun _ _ _ _ _ => (pv 11)))
            (pss_cons (ps_set (i := 2) sc.nd rfl (Or.inr rfl) (pe_op op_cat (pv 2) (pv 10)))
            (pss_one (ps_set (i := 3) sc.nd rfl (Or.inl rfl) (pe_op op_cat (pv 3) (pv 10)))))))) pss_nil))))))
    (pss_one (ps_ret (pv 2)))))), ?_⟩
  obtain ⟨v, n, ks, rfl, h1, ok, sg, hn, q⟩ := h
  show (_ : TS) _ [some v, some (.str n), none, none, none, none, none, none, none, none, none, none] H
  have nl := names_len ok
  refine q_newL (K := K) fun lf H1 hf e1 lF => ?_
  show (_ : TS) _ [some v, some (.str n), some (.ref lf), none, none, none, none, none, none, none, none, none] H1
  refine q_asgF (K := K) (fs := [n].map PyData.str) (ek_lst (eda_1 (ed_var rfl (.str n))) sz1) fun lw H2 hw e2 lW => ?_
  show (_ : TS) _ [some v, some (.str n), some (.ref lf), some (.ref lw), none, none, none, none, none, none, none, none] H2
  have ne0 : lf ≠ lw := fun e => by
    obtain ⟨xs, a, _⟩ := lF
    rw [← e, a] at hw
    cases hw
  have hua := unf_all (names ks) []
  refine q_while (fun m σ' H' => ∃ F W lf lw a4 a5 a6 a7 a8 a9 a10, σ' = [some v, some (.str n), some (.ref lf), some (.ref lw), a4, a5, a6, a7, a8, a9, a10, none] ∧ m = 3 * unf (names ks) F + W.length ∧ ReP K ks n H none m F W lf lw H') (3 * unf (names ks) [] + 1)
    ⟨[], [n], lf, lw, none, none, none, none, none, none, none, rfl, rfl, { qx := (Ex.qx (e1.trans e2)), ex := e1.trans e2, lF := lF.ex e2, lW := lW, ne := ne0, f0 := hf, w0 := fresh_back e1 hw, rc := fun k h => (nomatch h), wf := fun k h => .inl (List.mem_singleton.mp h), cl := fun y h _ => .inl (List.mem_singleton.mpr (h.resolve_right fun h => nomatch h)), b1 := by rw [List.length_nil]; omega, b2 := Nat.le_refl _, me := Nat.le_refl _ }⟩ ?_
  clear ne0 lF lW hw e1 e2 hf
  clear lf lw H1 H2
  rintro m σ' H' ⟨F, W, lf, lw, a4, a5, a6, a7, a8, a9, a10, rfl, rfl, p⟩
  have Wn : ∀ k ∈ W, k ∈ names ks := fun k hk => (p.wf k hk).elim (fun e => e ▸ hn) fun h => rc_names ok (p.rc k h)
  refine ⟨!decide (W = []), et_is (et_test (ev_neD (d := .list (W.map PyData.str)) (d' := .list []) (ed_var rfl p.lW.dp) ed_nilL (shaped_strs fun k hk => sg k (Wn k hk)) shaped_nilL)) (by rw [eqv_nilL]; cases W <;> simp), fun hb H1 e1 => ?_, fun hb H1 e1 => ?_⟩
  · have hne : W ≠ [] := by simpa using hb
    obtain ⟨W', z, rfl⟩ : ∃ W' z, W = W' ++ [z] := ⟨W.dropLast, W.getLast hne, (List.dropLast_concat_getLast hne).symm⟩
    have p1 := p.mv e1
    have hz : z = n ∨ z ∈ F := p.wf z (List.mem_append_right _ (List.mem_singleton.mpr rfl))
    have hzn : z ∈ names ks := Wn z (List.mem_append_right _ (List.mem_singleton.mpr rfl))
    refine ⟨fun σ2 H2 => ∃ F' W2 lf lw a4 a5 a6 a7 a8 a9 a10, σ2 = [some v, some (.str n), some (.ref lf), some (.ref lw), a4, a5, a6, a7, a8, a9, a10, none] ∧ ReP K ks n H none (3 * unf (names ks) F + W'.length) F' W2 lf lw H2, fun σ2 H2 ⟨F', W2, lf, lw, a4, a5, a6, a7, a8, a9, a10, e, r⟩ => ⟨3 * unf (names ks) F' + W2.length, by have := r.me; rw [List.length_append, List.length_singleton]; omega, F', W2, lf, lw, a4, a5, a6, a7, a8, a9, a10, e, rfl, { r with me := Nat.le_refl _ }⟩, ?_⟩
    -- waiting.pop()
    obtain ⟨xs, hxs, hxd⟩ := p1.lW
    have hxe := dpa_strs_eq hxd
    subst hxe
    have hll : ((W' ++ [z]).map V.str)[((W' ++ [z]).map V.str).length - 1]? = some (.str z) := by simp
    refine ⟨_, rfl, .inl ⟨rfl, _, sq_of hxs⟩, lw, _, .str z, rfl, rfl, hxs, hll, ?_⟩
    refine g_name ?_
    have ed : ((W' ++ [z]).map V.str).dropLast = W'.map V.str := by simp
    rw [ed]
    have m2 : Mut lw H1 (upd H1 lw (.lst (W'.map V.str))) := .upd
    have t2 : Tx H1 (upd H1 lw (.lst (W'.map V.str))) := m2.tx hxs
    have l2 : LstAt K (upd H1 lw (.lst (W'.map V.str))) lw (W'.map PyData.str) := ⟨_, upd_same, dpa_strs _⟩
    have lf2 : LstAt K (upd H1 lw (.lst (W'.map V.str))) lf (F.map PyData.str) := p1.lF.other m2 t2 p1.ne (noLs_map fun _ => rfl)
    have q2 : Qx H (upd H1 lw (.lst (W'.map V.str))) := p1.qx.mutL m2 t2 p1.w0
    have x2 : Ex H (upd H1 lw (.lst (W'.map V.str))) := m2.base p1.w0 p1.ex
    revert l2 lf2 q2 x2
    generalize upd H1 lw (.lst (W'.map V.str)) = H2
    intro l2 lf2 q2 x2
    have pz : ReP K ks n H (some z) (3 * unf (names ks) F + W'.length) F W' lf lw H2 := { qx := q2, ex := x2, lF := lf2, lW := l2, ne := p1.ne, f0 := p1.f0, w0 := p1.w0, rc := p1.rc, wf := fun k hk => p1.wf k (List.mem_append_left _ hk), cl := fun y hy hyz => (p1.cl y hy (fun e => nomatch e)).imp (fun h => (List.mem_append.mp h).resolve_right fun h => hyz (by rw [List.mem_singleton.mp h])) id, b1 := p1.b1, b2 := by have := p1.b2; rw [List.length_append, List.length_singleton] at this; omega, me := Nat.le_refl _ }
    show (_ : TS) _ [some v, some (.str n), some (.ref lf), some (.ref lw), some (.str z), a5, a6, a7, a8, a9, a10, none] H2
    refine s_forLS (K := K) (H0 := H) (fs := ks.map kindD) rfl h1 (fun i σ3 H3 => ∃ F' W2 lf lw a5 a6 a7 a8 a9 a10, σ3 = [some v, some (.str n), some (.ref lf), some (.ref lw), some (.str z), a5, a6, a7, a8, a9, a10, none] ∧ ReP K ks n H (some z) (3 * unf (names ks) F + W'.length) F' W2 lf lw H3 ∧ (z = n ∨ z ∈ F') ∧ ∀ k ∈ ks.take i, k.name = z → ∀ y ∈ standsK k.rules, y ∈ F')
      ⟨F, W', lf, lw, a5, a6, a7, a8, a9, a10, rfl, pz, hz, fun k hk => by rw [List.take_zero] at hk; cases hk⟩ (fun i σ3 H3 ⟨_, _, _, _, _, _, _, _, _, _, _, r, _⟩ => r.qx) ?_ ?_
    · clear lf2 l2 q2 x2 pz hz
      rintro i d x σ3 H3 hd hx ⟨F', W2, lf, lw, a5, a6, a7, a8, a9, a10, rfl, r, hz, hcl⟩
      obtain ⟨k, hki, rfl⟩ := map_get hd
      have hk := List.mem_of_getElem? hki
      refine g_three (d := .str k.name) (d' := .bool k.spr) (d'' := .list (k.rules.map ruleD)) hx fun w1 w2 w3 f1 f2 f3 => ?_
      have hw1 := dp_str f1
      subst hw1
      show (_ : TS) _ [some v, some (.str n), some (.ref lf), some (.ref lw), some (.str z), some (.str k.name), some w2, some w3, a8, a9, a10, none] H3
      have snoc : ∀ y, y ∈ ks.take (i + 1) → y ∈ ks.take i ∨ y = k := fun y hy => by
        rw [take_snoc hki] at hy
        exact (List.mem_append.mp hy).imp id List.mem_singleton.mp
      refine s_when (b := decide (k.name = z)) (et_is (et_test (ev_op (ev_var rfl) (ev_var rfl) (rv_eq rfl))) (by simp)) (fun hb H4 e4 => ?_) fun hb H4 e4 => ?_
      · have hkz : k.name = z := of_decide_eq_true hb
        have hsucc : succ ks z = standsK k.rules := by rw [← hkz]; unfold succ; rw [rulesOf_at ok.nd hk]
        have r4 := r.mv e4
        refine s_forLS (K := K) (H0 := H4) (fs := k.rules.map ruleD) rfl (dp_ex e4 f3) (fun j σ5 H5 => Qx H4 H5 ∧ ∃ F' W2 lf lw a8 a9 a10, σ5 = [some v, some (.str n), some (.ref lf), some (.ref lw), some (.str z), some (.str k.name), some w2, some w3, a8, a9, a10, none] ∧ ReP K ks n H (some z) (3 * unf (names ks) F + W'.length) F' W2 lf lw H5 ∧ (z = n ∨ z ∈ F') ∧ (∀ k ∈ ks.take i, k.name = z → ∀ y ∈ standsK k.rules, y ∈ F') ∧ ∀ y ∈ standsK (k.rules.take j), y ∈ F')
          ⟨Qx.refl _, F', W2, lf, lw, a8, a9, a10, rfl, r4, hz, hcl, fun y hy => by rw [List.take_zero] at hy; cases hy⟩ (fun j σ5 H5 pv => pv.1) ?_ ?_
        · clear r4 r hz hcl
          rintro j d2 x2 σ5 H5 hd2 hx2 ⟨q5, F', W2, lf, lw, a8, a9, a10, rfl, r, hz, hcl, hj⟩
          obtain ⟨ru, hri, rfl⟩ := map_get hd2
          have hru := List.mem_of_getElem? hri
          have hR := (ok.rules k hk).2 ru hru
          have few := hR.few
          have d1 := ru.1.dep_le_parts
          have d2' := ru.2.dep_le_parts
          refine g_two (d := ru.1.d) (d' := ru.2.d) hx2 fun w4 w5 f4 f5 => ?_
          show (_ : TS) _ [some v, some (.str n), some (.ref lf), some (.ref lw), some (.str z), some (.str k.name), some w2, some w3, some w4, some w5, a10, none] H5
          have hlF : F'.length ≤ 16 := by have := r.b1; omega
          have hlW : W2.length ≤ 17 := by have := r.b2; omega
          have sl : (standsR ru).length ≤ 2 := standsR_len hR
          let M : List Str := (standsR ru).filter fun y => !decide (y ∈ F')
          have hMl : M.length ≤ 2 := Nat.le_trans (List.length_filter_le _ _) sl
          have hM : ∀ y ∈ M, y ∈ names ks ∧ y ∉ F' ∧ Rc ks n y := fun y hy => by
            obtain ⟨hy1, hy2⟩ := List.mem_filter.mp hy
            have hys : y ∈ succ ks z := by rw [hsucc]; exact List.mem_flatMap.mpr ⟨ru, hru, hy1⟩
            refine ⟨standsR_ok hR y hy1, by simpa using hy2, ?_⟩
            rcases hz with rfl | hz
            · exact .one hys
            · exact .step (r.rc z hz) hys
          have eC : EvF K _ _ H5 (M.map PyData.str) := ek_lcL (K := K) (σ := [some v, some (.str n), some (.ref lf), some (.ref lw), some (.str z), some (.str k.name), some w2, some w3, some w4, some w5, a10, none]) (H := H5) (enc := PyData.str) (out := PyData.str) (ls := standsR ru) (f := fun y => !decide (y ∈ F')) (t := tTest (tOp (rIn K true) (tVar 11) (tVar 2))) (g := gName 11) (te := tVar 11) (vs := [11])
            (tl := tOp rCat (tCall (spL K (RStands 3)) [] E0 (tCons (tVar 8) tNil)) (tCall (spL K (RStands 3)) [] E0 (tCons (tVar 9) tNil)))
            (by rw [standsR, List.map_append]; exact EvF.d0 (ek_cat (EvF.k (ek_call (eda_1 (d := ru.1.d) (ed_var rfl f4)) ⟨ru.1, by omega, by omega, rfl, rfl⟩)) (EvF.k (ek_call (eda_1 (d := ru.2.d) (ed_var rfl f5)) ⟨ru.2, by omega, by omega, rfl, rfl⟩)) (by rw [List.length_map, List.length_map, Grv.stands_length, Grv.stands_length]; omega)))
            (by omega) (fun _ _ _ => rfl) fun y hy vy H6 e6 hd6 R kk => kk [some v, some (.str n), some (.ref lf), some (.ref lw), some (.str z), some (.str k.name), some w2, some w3, some w4, some w5, a10, some vy] H6 (Ex.refl _) rfl (et_test (ev_niS (ed_var rfl hd6) (ed_var rfl (r.lF.ex e6).dp))) fun _ => ed_var rfl hd6
          refine q_asgF eC fun lm H6 hm e6 lM => ?_
          show (_ : TS) _ [some v, some (.str n), some (.ref lf), some (.ref lw), some (.str z), some (.str k.name), some w2, some w3, some w4, some w5, some (.ref lm), none] H6
          refine q_asgF (fs := F'.map PyData.str ++ M.map PyData.str) (ek_cat (ek_var rfl (r.lF.ex e6)) (ek_var rfl lM) (by rw [List.length_map, List.length_map]; omega)) fun lf' H7 hf7 e7 lF7 => ?_
          show (_ : TS) _ [some v, some (.str n), some (.ref lf'), some (.ref lw), some (.str z), some (.str k.name), some w2, some w3, some w4, some w5, some (.ref lm), none] H7
          refine s_asgF (fs := W2.map PyData.str ++ M.map PyData.str) (ek_cat (ek_var rfl ((r.lW.ex e6).ex e7)) (ek_var rfl (lM.ex e7)) (by rw [List.length_map, List.length_map]; omega)) fun lw' H8 hw8 e8 lW8 => ?_
          have e58 := (e6.trans e7).trans e8
          have ne8 : lf' ≠ lw' := fun e => by
            obtain ⟨xs, a, _⟩ := lF7
            rw [e, hw8] at a
            cases a
          have r8 := r.add (M := M) e58 (by rw [List.map_append]; exact lF7.ex e8) (by rw [List.map_append]; exact lW8) ne8 (fresh_back (r.ex.trans e6) hf7) (fresh_back ((r.ex.trans e6).trans e7) hw8) hM hMl
          refine ⟨q5.trans (Ex.qx e58), F' ++ M, W2 ++ M, lf', lw', _, _, _, rfl, r8, hz.imp id fun h => List.mem_append_left _ h, fun k' hk' e y hy => List.mem_append_left _ (hcl k' hk' e y hy), fun y hy => ?_⟩
          rw [take_snoc hri] at hy
          have hy' : y ∈ standsK (k.rules.take j) ∨ y ∈ standsR ru := by
            unfold standsK at hy
            rw [List.flatMap_append] at hy
            exact (List.mem_append.mp hy).imp id fun h => by simpa using h
          rcases hy' with hy | hy
          · exact List.mem_append_left _ (hj y hy)
          · by_cases hyF : y ∈ F'
            · exact List.mem_append_left _ hyF
            · exact List.mem_append_right _ (List.mem_filter.mpr ⟨hy, by simpa using hyF⟩)
        · rintro σ5 H5 ⟨q5, F', W2, lf, lw, a8, a9, a10, rfl, r, hz, hcl, hj⟩
          rw [List.length_map, List.take_length] at hj
          refine ⟨F', W2, lf, lw, _, _, _, _, _, _, rfl, r, hz, fun k' hk' e y hy => ?_⟩
          rcases snoc k' hk' with h | rfl
          · exact hcl k' h e y hy
          · exact hj y hy
      · have hkz : ¬ k.name = z := of_decide_eq_false hb
        refine ⟨F', W2, lf, lw, _, _, _, _, _, _, rfl, r.mv e4, hz, fun k' hk' e y hy => ?_⟩
        rcases snoc k' hk' with h | rfl
        · exact hcl k' h e y hy
        · exact absurd e hkz
    · rintro σ3 H3 ⟨F', W2, lf, lw, a5, a6, a7, a8, a9, a10, rfl, r, hz, hcl⟩
      rw [List.length_map, List.take_length] at hcl
      refine ⟨F', W2, lf, lw, _, _, _, _, _, _, _, rfl, { r with cl := fun y hy _ => ?_ }⟩
      by_cases e : y = z
      · right
        subst e
        obtain ⟨k, hk, hkn⟩ := List.mem_map.mp hzn
        intro x hx
        have hs : succ ks y = standsK k.rules := by rw [← hkn]; unfold succ; rw [rulesOf_at ok.nd hk]
        rw [hs] at hx
        exact hcl k hk hkn x hx
      · exact r.cl y hy (fun h => e (Option.some.inj h))
  · have hw : W = [] := by simpa using hb
    subst hw
    have cl : ∀ y, (y = n ∨ y ∈ F) → ∀ k ∈ succ ks y, k ∈ F := fun y hy => (p.cl y hy (fun e => nomatch e)).resolve_left fun h => nomatch h
    have hall : ∀ k, Rc ks n k → k ∈ F := fun k h => by
      induction h with
      | one s => exact cl n (.inl rfl) _ s
      | step _ s ih => exact cl _ (.inr ih) _ s
    have b1 := p.b1
    exact ⟨.ref lf, rfl, q F lf H1 (fun k => ⟨p.rc k, hall k⟩) (by omega) p.f0 (p.ex.trans e1) (p.lF.ex e1)⟩
end
end Fell

/-! FP12 -/
set_option Elab.async false
set_option linter.all false
set_option maxRecDepth 100000
set_option maxHeartbeats 4000000
/-! The law's own look at endless kinds; at sorts. -/
namespace Fell
open PySem PySem.Spec PyProof.Rows L2 Evl
/-- what the law finds endless -/
structure IsLE (ks : List Kind) (S : List Str) : Prop where
  asc : Asc S
  mem : ∀ n, n ∈ S ↔ n ∈ names ks ∧ Loops ks n
theorem IsLE.same {ks : List Kind} (ok : BookOk ks) {S S' : List Str} (h : IsLE ks S) (g : IsEnd ks S') : ∀ k, k ∈ S' ↔ k ∈ S := fun k => by
  rw [h.mem]
  constructor
  · intro hk
    exact ⟨(g.mem k hk).1, loops_of (fun n hn => (g.mem n hn).2) hk⟩
  · intro hk
    refine g.max (fun n => n ∈ names ks ∧ Loops ks n) (fun n hn => ⟨hn.1, ?_⟩) k hk
    obtain ⟨m, hm, hl⟩ := loops_step hn.2
    exact ⟨m, hm, ok.succ hm, hl⟩
theorem IsLE.noEnd {ks : List Kind} (ok : BookOk ks) (h : IsLE ks []) : NoEnd ks := fun S hS => by
  have e := h.same ok hS
  cases S with
  | nil => rfl
  | cons a r => exact absurd ((e a).mp List.mem_cons_self) (fun h => nomatch h)
section
variable {P : Program} {w : World} {K : KK} {mg : Str → Option Value} {base : Heap} {aO aS B bI : Addr}
def spLE (K : KK) : Sp := fun vs H Q _ => ∃ v ks, vs = [v] ∧ Dp K H v (.list (ks.map kindD)) ∧ BookOk ks ∧ (∀ n ∈ names ks, okS n) ∧ ∀ S v H2, IsLE ks S → Ex H H2 → Dp K H2 v (.list (S.map PyData.str)) → Q v H2
/-- _law_reached(kinds, name) -/
theorem ef_reach {σ : L2.St} {H : Hp} {v : V} {ks : List Kind} {n : Str} {i : Nat} {te : TE} (hv : σ[i]? = some (some v)) (hd : Dp K H v (.list (ks.map kindD))) (ok : BookOk ks) (sg : ∀ n ∈ names ks, okS n) (hn : n ∈ names ks) (h : EvD K te σ H (.str n)) : EvFP K (tCall (spReach K) [] E0 (tCons (tVar i) (tCons te tNil))) σ H (fun fs => ∃ F : List Str, (∀ k, k ∈ F ↔ Rc ks n k) ∧ F.length ≤ 16 ∧ fs = F.map PyData.str) := fun H1 e Q q =>
  ⟨v, hv, h H1 e _ fun u H2 e2 hu => by
    have hx := dp_str hu
    subst hx
    exact ⟨v, n, ks, rfl, dp_ex (e.trans e2) hd, ok, sg, hn, fun F p H3 hF hl hp e3 l => q _ p H3 ⟨F, hF, hl, rfl⟩ (fresh_back e2 hp) (e2.trans e3) l⟩⟩
open Classical in
theorem ev_inP {σ : L2.St} {H : Hp} {ta te : TE} {x : Str} {P1 : PyData → Prop} {p : Prop} (ha : EvD K ta σ H (.str x)) (hb : EvP K te σ H P1) (h : ∀ d, P1 d → ∃ ns : List Str, d = .list (ns.map PyData.str) ∧ (x ∈ ns ↔ p)) : Ev (tOp (rIn K false) ta te) σ H (.bl (decide p)) := fun H1 e Q q =>
  ha H1 e _ fun v H2 e2 hv => hb H2 (e.trans e2) _ fun d u H3 pd e3 hu => by
    obtain ⟨ns, rfl, hp⟩ := h d pd
    obtain ⟨a, rfl, hs⟩ := dp_str_list hu
    rw [dp_str hv]
    refine ⟨a, _, rfl, .inl hs, rfl, flat_strs ns, ?_⟩
    show Q (.bl (inV (.str x) (ns.map V.str))) H3
    rw [inV_strs, decide_eq_decide.mpr hp]
    exact q H3 (e2.trans e3)
theorem kd_name {H : Hp} {v : V} {k : Kind} {σ : L2.St} {i : Nat} (hs : σ[i]? = some (some v)) (h : Dp K H v (kindD k)) : EvD K (tOp (rIxT K) (tVar i) (tC (.int (0 : Nat)))) σ H (.str k.name) := ed_at (i := 0) (ds := [.str k.name, .bool k.spr, .list (k.rules.map ruleD)]) (ed_var hs h) rfl
open Classical in
theorem c__law_endless (T : Txt K mg aO aS B bI) : Cal P w K mg base 5 "_law_endless" (spLE K) := by
  have c__law_reached := c__law_reached (P := P) (w := w) (base := base) T
  have sc : FnScope ["_law_kinds_here", "_law_rings", "_law_found", "_law_kind", "_law_reached_here", "_law_name"] ["_law_kinds_here"] (defScope (top 85)) := ⟨rfl, rfl, rfl, by decide +kernel, rfl, by decide +kernel, by decide +kernel⟩
  refine calD T.a__law_endless sc (fun vs H Q E ⟨_, _, e, _⟩ => by rw [e]; rfl) (fun _ _ _ _ _ _ us hl => match us, hl with | [_], _ => rfl) fun f cdv A outer s H vs Q E hr h => ?_
  refine ⟨_, (pss_cons (ps_set (i := 1) sc.nd rfl (Or.inr rfl) (pe_lc (own := [("_law_kind", 3)]) rfl sc.nd (show PI _ _ _ (iList K _) from (pi_list (pv 0))) (blkOk_by (N := ["_law_kinds_here", "_law_rings", "_law_found", "_law_kind", "_law_reached_here", "_law_name"]) (sc := (defScope (top 85))) (own := [("_law_kind", 3)]) (by decide +kernel)) (fun _ _ _ _ _ => (pg_name (i := 3) sc.nd rfl (Or.inl rfl))) (fun _ _ _ _ _ => pts_one (pt_cmpR (show OpR _ _ (rIn K false) from op_in_seq) (pe_ix (show IxR _ (rIxT K) from ix_tup) (pv 3) pe_int (fun _ _ => rfl)) (pe_c c__law_reached hr (by omega) rfl (pa_cons (pv 0) (pa_cons (pe_ix (show IxR _ (rIxT K) from ix_tup) (pv 3) pe_int (fun _ _ => rfl)) pa_nil))) (by with_unfolding_all rfl))) (fun _ _ _ _ _ => (pe_ix (show IxR _ (rIxT K) from ix_tup) (pv 3) pe_int (fun _ _ => rfl)))))
    (pss_cons (ps_set (i := 2) sc.nd rfl (Or.inl rfl) (pe_lst pa_nil))
    (pss_cons (ps_for PassesOwn.never rfl (show PI _ _ _ (iList K _) from (pi_list (pv 0))) (pg_name (i := 3) sc.nd rfl (Or.inl rfl))
      (pss_cons (ps_set (i := 4) sc.nd rfl (Or.inl rfl) (pe_op op_cat (pe_lst (pa_cons (pe_ix (show IxR _ (rIxT K) from ix_tup) (pv 3) pe_int (fun _ _ => rfl)) pa_nil)) (pe_c c__law_reached hr (by omega) rfl (pa_cons (pv 0) (pa_cons (pe_ix (show IxR _ (rIxT K) from ix_tup) (pv 3) pe_int (fun _ _ => rfl)) pa_nil)))))
      (pss_one (ps_if (pt_cmpR (show OpR _ _ (rNeD K) from (op_neD hr.units)) (pe_lc (own := [("_law_name", 5)]) rfl sc.nd (show PI _ _ _ (iList K _) from (pi_list (pv 4))) (blkOk_by (N := ["_law_kinds_here", "_law_rings", "_law_found", "_law_kind", "_law_reached_here", "_law_name"]) (sc := (defScope (top 85))) (own := [("_law_name", 5)]) (by decide +kernel)) (fun _ _ _ _ _ => (pg_name (i := 5) sc.nd rfl (Or.inl rfl))) (fun _ _ _ _ _ => pts_one (pt_cmpR (show OpR _ _ (rIn K false) from op_in_seq) (pv 5) (pv 1) (by with_unfolding_all rfl))) (fun _ _ _ _ _ => (pv 5))) (pe_lst pa_nil) (nomark _)) (pss_one (ps_expr (show PE _ _ (tBM K _ _ _ _) from (pe_bm PySem.F.plainAttrs_list PySem.F.slot_list_append PySem.F.type_list_append mt_append (pv 2) (pa_cons (pe_ix (show IxR _ (rIxT K) from ix_tup) (pv 3) pe_int (fun _ _ => rfl)) pa_nil))))) pss_nil))))
    (pss_one (ps_ret (pe_callB cr_sortedS rfl T.n_sorted b_sorted (pa_cons (pv 2) pa_nil))))))), ?_⟩
  obtain ⟨v, ks, rfl, h1, ok, sg, q⟩ := h
  show (_ : TS) _ [some v, none, none, none, none, none] H
  have kl : ks.length ≤ 8 := ok.few
  have mn : ∀ k ∈ ks, k.name ∈ names ks := fun k hk => List.mem_map.mpr ⟨k, hk, rfl⟩
  let ring : Kind → Bool := fun k => decide (Rc ks k.name k.name)
  let R : List Str := (ks.filter ring).map (·.name)
  have hR : ∀ n, n ∈ R ↔ n ∈ names ks ∧ Rc ks n n := fun n => by
    constructor
    · intro h
      obtain ⟨k, hk, rfl⟩ := List.mem_map.mp h
      obtain ⟨hk1, hk2⟩ := List.mem_filter.mp hk
      exact ⟨mn k hk1, of_decide_eq_true hk2⟩
    · rintro ⟨h, hr⟩
      obtain ⟨k, hk, rfl⟩ := List.mem_map.mp h
      exact List.mem_map.mpr ⟨k, List.mem_filter.mpr ⟨hk, decide_eq_true hr⟩, rfl⟩
  have eR : EvD K _ _ H (.list ((ks.filter ring).map fun k => .str k.name)) := ed_lcL (K := K) (σ := [some v, none, none, none, none, none]) (H := H) (enc := kindD) (out := fun k => .str k.name) (ls := ks) (f := ring) (t := tTest (tOp (rIn K false) (tOp (rIxT K) (tVar 3) (tC (.int (0 : Nat)))) (tCall (spReach K) [] E0 (tCons (tVar 0) (tCons (tOp (rIxT K) (tVar 3) (tC (.int (0 : Nat)))) tNil))))) (g := gName 3) (te := tOp (rIxT K) (tVar 3) (tC (.int (0 : Nat)))) (tl := tVar 0) (vs := [3]) (ed_var rfl h1) (by omega) (fun _ _ _ => rfl)
    fun k hk vk H2 e2 hd R' kk => kk [some v, none, none, some vk, none, none] H2 (Ex.refl _) rfl (et_test (ev_inP (kd_name rfl hd) (ef_reach (i := 0) rfl (dp_ex e2 h1) ok sg (mn k hk) (kd_name rfl hd)).toP fun d ⟨fs, ⟨F, hF, _, e1⟩, e2⟩ => ⟨F, by rw [e2, e1], hF k.name⟩)) fun _ => kd_name rfl hd
  have em : ((ks.filter ring).map fun k => PyData.str k.name) = R.map PyData.str := by rw [List.map_map]; rfl
  rw [em] at eR
  refine q_asgD eR fun vr H1 e1 hr => ?_
  refine g_name ?_
  show (_ : TS) _ [some v, some vr, none, none, none, none] H1
  refine q_newL (K := K) fun L HL hL eL lL => ?_
  show (_ : TS) _ [some v, some vr, some (.ref L), none, none, none] HL
  have hL0 : H L = none := fresh_back e1 hL
  let lp : Kind → Bool := fun k => decide (Loops ks k.name)
  refine s_forLS (K := K) (H0 := H1) (D := { nx := _, rt := _, bk := _, ct := _ }) (fs := ks.map kindD) rfl (dp_ex e1 h1) (fun i σ2 H2 => Qx H1 H2 ∧ Ex H1 H2 ∧ (∃ a b, σ2 = [some v, some vr, some (.ref L), a, b, none]) ∧ LstAt K H2 L ((((ks.take i).filter lp).map (·.name)).map PyData.str)) ⟨Ex.qx eL, eL, ⟨none, none, rfl⟩, by rw [List.take_zero]; exact lL⟩ (fun i σ2 H2 pv => pv.1) ?_ ?_
  · rintro i d x σ2 H2 hd hx ⟨q2, e2, ⟨a0, b0, rfl⟩, lt⟩
    obtain ⟨k, hki, rfl⟩ := map_get hd
    have hk := List.mem_of_getElem? hki
    have hi : i < ks.length := (List.getElem?_eq_some_iff.mp hki).1
    refine g_name ?_
    show (_ : TS) _ [some v, some vr, some (.ref L), some x, b0, none] H2
    have eH := e1.trans e2
    have hr2 := dp_ex e2 hr
    have h12 := dp_ex eH h1
    refine (ef_reach (K := K) (te := tOp (rIxT K) (tVar 3) (tC (.int (0 : Nat)))) (σ := [some v, some vr, some (.ref L), some x, b0, none]) (i := 0) rfl h12 ok sg (mn k hk) (kd_name rfl hx) |> fun hF => ?_)
    have hcat : EvFP K (tOp rCat (tLst (tCons (tOp (rIxT K) (tVar 3) (tC (.int (0 : Nat)))) tNil)) (tCall (spReach K) [] E0 (tCons (tVar 0) (tCons (tOp (rIxT K) (tVar 3) (tC (.int (0 : Nat)))) tNil)))) [some v, some vr, some (.ref L), some x, b0, none] H2 (fun fs => ∃ F : List Str, (∀ y, y ∈ F ↔ Rc ks k.name y) ∧ F.length ≤ 16 ∧ fs = ([k.name] ++ F).map PyData.str) := fun H3 e3 Q3 q3 =>
      (EvF.k (ek_lst (K := K) (fs := [.str k.name]) (eda_1 (kd_name rfl hx)) sz1)) H3 e3 _ fun p H4 e4 l1 => hF H4 (e3.trans e4) _ fun fs r H5 ⟨F, hF, hl, ef⟩ hr5 e5 l2 => by
        subst ef
        obtain ⟨xs, a1, b1⟩ := l1.ex e5
        obtain ⟨ys, a2, b2⟩ := l2
        have n1 := dpa_len b1
        have n2 := dpa_len b2
        rw [List.length_map] at n2
        rw [List.length_singleton] at n1
        exact ⟨p, r, xs, ys, rfl, rfl, a1, a2, sz_of (by omega), fun s hs => q3 _ s _ ⟨F, hF, hl, rfl⟩ (fresh_back (e4.trans e5) hs) ((e4.trans e5).trans (Ex.new hs)) ⟨_, upd_same, by rw [List.map_append]; exact dpa_ex (Ex.new hs) (dpa_app b1 b2)⟩⟩
    refine q_asgP hcat.toP fun d vh H3 ⟨fs, ⟨F, hF, hFl, ef⟩, edd⟩ e3 hvh => ?_
    subst ef edd
    refine g_name ?_
    show (_ : TS) _ [some v, some vr, some (.ref L), some x, some vh, none] H3
    let Z : List Str := ([k.name] ++ F).filter fun y => decide (y ∈ R)
    have eZ : EvD K _ _ H3 (.list (Z.map PyData.str)) := ed_lcL (K := K) (σ := [some v, some vr, some (.ref L), some x, some vh, none]) (H := H3) (enc := PyData.str) (out := PyData.str) (ls := [k.name] ++ F) (f := fun y => decide (y ∈ R)) (t := tTest (tOp (rIn K false) (tVar 5) (tVar 1))) (g := gName 5) (te := tVar 5) (tl := tVar 4) (vs := [5]) (ed_var rfl hvh) (by rw [List.length_append, List.length_singleton]; omega) (fun _ _ _ => rfl)
      fun y hy vy H4 e4 hd4 R' kk => kk [some v, some vr, some (.ref L), some x, some vh, some vy] H4 (Ex.refl _) rfl (et_test (ev_inS (ed_var rfl hd4) (ed_var rfl (dp_ex (e3.trans e4) hr2)))) fun _ => ed_var rfl hd4
    have rcn : ∀ y ∈ Z, okS y := fun y hy => by
      obtain ⟨h, _⟩ := List.mem_filter.mp hy
      rcases List.mem_append.mp h with h | h
      · rw [List.mem_singleton.mp h]; exact sg _ (mn k hk)
      · exact sg _ (rc_names ok ((hF y).mp h))
    have hZ : (!decide (Z = [])) = lp k := by
      rw [Bool.eq_iff_iff]
      constructor
      · intro h
        have hne : Z ≠ [] := by simpa using h
        obtain ⟨y, hy⟩ := List.exists_mem_of_ne_nil Z hne
        obtain ⟨h1, h2⟩ := List.mem_filter.mp hy
        have hyR := (hR y).mp (of_decide_eq_true h2)
        refine decide_eq_true ⟨y, ?_, hyR.2⟩
        rcases List.mem_append.mp h1 with h | h
        · exact .inl (List.mem_singleton.mp h)
        · exact .inr ((hF y).mp h)
      · intro h
        obtain ⟨m, hm, hmm⟩ := (of_decide_eq_true h : Loops ks k.name)
        have hmZ : m ∈ Z := by
          refine List.mem_filter.mpr ⟨?_, decide_eq_true ((hR m).mpr ⟨?_, hmm⟩)⟩
          · rcases hm with rfl | hm
            · exact List.mem_append_left _ (List.mem_singleton.mpr rfl)
            · exact List.mem_append_right _ ((hF m).mpr hm)
          · exact rc_names ok hmm
        have hne : Z ≠ [] := fun e => by rw [e] at hmZ; cases hmZ
        simp [hne]
    have sn : (ks.take (i + 1)).filter lp = (ks.take i).filter lp ++ (if lp k = true then [k] else []) := by
      rw [take_snoc hki, List.filter_append]
      congr 1
      rw [List.filter_cons]
      split <;> rfl
    have lt3 := (lt.ex e3)
    have ll : ((((ks.take i).filter lp).map (·.name)).map PyData.str).length ≤ 8 := by
      rw [List.length_map, List.length_map]
      have := List.length_filter_le lp (ks.take i)
      rw [List.length_take] at this
      omega
    refine s_when (b := lp k) (et_is (et_test (ev_neD (d := .list (Z.map PyData.str)) (d' := .list []) eZ ed_nilL (shaped_strs rcn) shaped_nilL)) (by rw [eqv_nilL, ← hZ]; congr 1; simp)) (fun hb H4 e4 => ?_) fun hb H4 e4 => ?_
    · refine s_appD (d := .str k.name) (lt3.ex e4) (noLs_map fun _ => rfl) rfl (fun _ _ => ev_var rfl) (kd_name rfl (dp_ex (e3.trans e4) hx)) (by omega) fun H5 m5 l5 => ?_
      refine ⟨(q2.trans (Ex.qx (e3.trans e4))).mutL m5 ((lt3.ex e4).tx m5) hL, m5.base hL ((e2.trans e3).trans e4), ⟨_, _, rfl⟩, ?_⟩
      rw [sn, if_pos hb, List.map_append, List.map_append]
      exact l5
    · refine ⟨q2.trans (Ex.qx (e3.trans e4)), (e2.trans e3).trans e4, ⟨_, _, rfl⟩, ?_⟩
      rw [sn, if_neg (by rw [hb]; decide), List.append_nil]
      exact lt3.ex e4
  · rintro σ2 H2 ⟨q2, e2, ⟨a0, b0, rfl⟩, lt⟩
    rw [List.length_map, List.take_length] at lt
    refine s_retP (ep_sortedS (K := K) (ed_var rfl lt.dp) (by rw [List.length_map]; have := List.length_filter_le lp ks; omega)) fun d v2 H3 ⟨ys, hp, hs, ed⟩ e3 hv2 => ?_
    subst ed
    refine q ys v2 H3 ⟨asc_of hs, fun n => ?_⟩ ((e1.trans e2).trans e3) hv2
    rw [hp.mem_iff]
    constructor
    · intro h
      obtain ⟨k, hk, rfl⟩ := List.mem_map.mp h
      obtain ⟨hk1, hk2⟩ := List.mem_filter.mp hk
      exact ⟨mn k hk1, of_decide_eq_true hk2⟩
    · rintro ⟨h, hl⟩
      obtain ⟨k, hk, rfl⟩ := List.mem_map.mp h
      exact List.mem_map.mpr ⟨k, List.mem_filter.mpr ⟨hk, decide_eq_true hl⟩, rfl⟩
end
end Fell

/-! FP13 -/
set_option Elab.async false
set_option linter.all false
set_option maxRecDepth 100000
set_option maxHeartbeats 4000000
/-! The law's own look at what is needed. -/
namespace Fell
open PySem PySem.Spec PyProof.Rows L2 Evl
theorem IsTop.ex {l : List Str} (pl : Str → Nat) : ∀ i : Nat, i < l.length → ∃ m nm, IsTop (l.take (i + 1)) pl m nm
  | 0, h => by
    have e : l[0]? = some l[0] := List.getElem?_eq_getElem h
    rw [take_snoc e, List.take_zero]
    exact ⟨_, _, IsTop.one⟩
  | i + 1, h => by
    obtain ⟨m, nm, t⟩ := IsTop.ex (l := l) pl i (by omega)
    have e : l[i + 1]? = some l[i + 1] := List.getElem?_eq_getElem h
    rw [take_snoc e]
    by_cases hlt : m < pl l[i + 1]
    · exact ⟨_, _, t.new hlt⟩
    · exact ⟨_, _, t.keep (Nat.le_of_not_lt hlt)⟩
theorem IsTop.all {l : List Str} (pl : Str → Nat) (h : l ≠ []) : ∃ m nm, IsTop l pl m nm := by
  have hp := List.length_pos_iff.mpr h
  obtain ⟨m, nm, t⟩ := IsTop.ex (l := l) pl (l.length - 1) (by omega)
  have e : l.length - 1 + 1 = l.length := by omega
  rw [e, List.take_length] at t
  exact ⟨m, nm, t⟩
section
variable {P : Program} {w : World} {K : KK} {mg : Str → Option Value} {base : Heap} {aO aS B bI : Addr}
def plOf (ks : List Kind) (n : Str) : Nat := sIx (rkO ks n).sortOf
def spNeed (K : KK) (B : Addr) : Sp := fun vs H Q _ => ∃ b v ks, vs = [.ref b, v] ∧ BookAt K B H b ks ∧ Dp K H v (.list (ks.map kindD)) ∧ NoEnd ks ∧ ∀ m nm v H2, m < 4 → IsTop (names ks) (plOf ks) m nm → Ex H H2 → Dp K H2 v (.tuple [.str (sorts.getD m ""), .str nm]) → Q v H2
theorem ev_max {σ : L2.St} {H : Hp} {ta : TE} {ns : List Int} {m : Int} (h : EvD K ta σ H (.list (ns.map PyData.int))) (hm : m ∈ ns) (hle : ∀ y ∈ ns, y ≤ m) : Ev (tCB (rMax K) (tCons ta tNil)) σ H (.int m) := fun H1 e Q q => h H1 e _ fun v H2 e2 hv => by
  obtain ⟨a, xs, rfl, hs, hx⟩ := dp_lst hv
  rw [dpa_ints_eq hx] at hs
  refine ⟨a, ns, rfl, hs, List.length_pos_of_mem hm, fun m' hm' hle' => ?_⟩
  have : m' = m := by have := hle m' hm'; have := hle' m hm; omega
  subst this
  exact q H2 e2
theorem c__law_needed (T : Txt K mg aO aS B bI) : Cal P w K mg base 38 "_law_needed" (spNeed K B) := by
  have c__law_word := c__law_word (P := P) (w := w) (base := base) T 25
  have c_own_rank := c_own_rank (P := P) (w := w) (base := base) T
  have sc : FnScope ["_law_book", "_law_kinds_here", "_law_words", "_law_sorts", "_law_kind"] ["_law_book", "_law_kinds_here"] (defScope (top 88)) := ⟨rfl, rfl, rfl, by decide +kernel, rfl, by decide +kernel, by decide +kernel⟩
  refine calD T.a__law_needed sc (fun vs H Q E ⟨_, _, _, e, _⟩ => by rw [e]; rfl) (fun _ _ _ _ _ _ us hl => match us, hl with | [_, _], _ => rfl) fun f cdv A outer s H vs Q E hr h => ?_
  refine ⟨_, (pss_cons (ps_set (i := 2) sc.nd rfl (Or.inr rfl) (pe_lst (pa_cons pe_str (pa_cons pe_str (pa_cons pe_str (pa_cons pe_str pa_nil))))))
    (pss_cons (ps_setLc (i := 3) rfl sc.nd rfl rfl (sw_true rfl rfl rfl rfl) (show PI _ _ _ (iList K _) from (pi_list (pv 1))) (blkOk_by (N := ["_law_book", "_law_kinds_here", "_law_words", "_law_sorts", "_law_kind"]) (sc := (defScope (top 88))) (own := [("_law_kind", 4)]) (by decide +kernel)) (fun _ _ _ _ _ => (pg_name (i := 4) sc.nd rfl (Or.inl rfl))) (fun _ _ _ _ _ => pts_nil) (fun _ _ _ _ _ => (show PE _ _ (tBM K _ _ _ _) from (pe_bm PySem.F.plainAttrs_list PySem.F.slot_list_index PySem.F.type_list_index (show MtR _ _ (rIndex K) from mt_index) (pv 2) (pa_cons (pe_c c__law_word hr (by omega) rfl (pa_cons (pe_c c_own_rank hr (by omega) rfl (pa_cons (pv 0) (pa_cons (pe_ix (show IxR _ (rIxT K) from ix_tup) (pv 4) pe_int (fun _ _ => rfl)) pa_nil))) pa_nil)) pa_nil)))))
    (pss_one (ps_ret (pe_tup (pa_cons (pe_ix (show IxR _ (rIxL K) from ix_list) (pv 2) (pe_callB (cr_max rfl) rfl T.n_max b_max (pa_cons (pv 3) pa_nil)) (fun _ _ => rfl)) (pa_cons (pe_ix (show IxR _ (rIxT K) from ix_tup) (pe_ix (show IxR _ (rIxL K) from ix_list) (pv 1) (show PE _ _ (tBM K _ _ _ _) from (pe_bm PySem.F.plainAttrs_list PySem.F.slot_list_index PySem.F.type_list_index (show MtR _ _ (rIndex K) from mt_index) (pv 3) (pa_cons (pe_callB (cr_max rfl) rfl T.n_max b_max (pa_cons (pv 3) pa_nil)) pa_nil))) (fun _ _ => rfl)) pe_int (fun _ _ => rfl)) pa_nil))))))), ?_⟩
  obtain ⟨b, v, ks, rfl, ba, h1, ne, q⟩ := h
  show (_ : TS) _ [some (.ref b), some v, none, none, none] H
  have ok := ba.ok
  have kl : ks.length ≤ 8 := ok.few
  have mn : ∀ k ∈ ks, k.name ∈ names ks := fun k hk => List.mem_map.mpr ⟨k, hk, rfl⟩
  refine q_asgD (K := K) (d := .list (sorts.map PyData.str)) (ed_lst (eda_cons (ed_str ev_c) (eda_3 (ed_str ev_c) (ed_str ev_c) (ed_str ev_c))) (by decide)) fun vw H1 e1 hw => ?_
  refine g_name ?_
  show (_ : TS) _ [some (.ref b), some v, some vw, none, none] H1
  obtain ⟨aw, rfl, hsw⟩ := dp_str_list hw
  have fls : (sorts.map V.str).all flatV = true := by decide
  have eS : EvD K (tLc (iList K (tVar 1)) (gName 4) tYes (tBM K "list" (rIndex K) (tVar 2) (tCons (tCall (spR K (RWord 25)) [] E0 (tCons (tCall (spOwn K B) [] E0 (tCons (tVar 0) (tCons (tOp (rIxT K) (tVar 4) (tC (.int (0 : Nat)))) tNil))) tNil)) tNil)) [4]) [some (.ref b), some v, some (.ref aw), none, none] H1 (.list (ks.map fun k => .int (plOf ks k.name : Nat))) := by
    have := ed_lcL (K := K) (σ := [some (.ref b), some v, some (.ref aw), none, none]) (H := H1) (enc := kindD) (out := fun k => .int (plOf ks k.name : Nat)) (ls := ks) (f := fun _ => true) (t := tYes) (g := gName 4) (te := tBM K "list" (rIndex K) (tVar 2) (tCons (tCall (spR K (RWord 25)) [] E0 (tCons (tCall (spOwn K B) [] E0 (tCons (tVar 0) (tCons (tOp (rIxT K) (tVar 4) (tC (.int (0 : Nat)))) tNil))) tNil)) tNil)) (tl := tVar 1) (vs := [4]) (ed_var rfl (dp_ex e1 h1)) (by omega) (fun _ _ _ => rfl)
      fun k hk vk H2 e2 hd R' kk => kk [some (.ref b), some v, some (.ref aw), none, some vk] H2 (Ex.refl _) rfl et_yes fun _ => ed_int fun H3 e3 Q3 q3 => ⟨_, rfl, .inl ⟨rfl, _, ex_l (e2.trans e3) hsw⟩, ?_⟩
    · rw [filter_all] at this
      exact this
    · refine (ep_call (K := K) (E := E0) (Pre := fun bk ds => NoEnd bk ∧ PreN bk ds) (Post := PostOwn) (σ := [some (.ref b), some v, some (.ref aw), none, some vk]) (ta := tVar 0) (ev_var rfl) (ba.ex ((e1.trans e2).trans e3)) (eda_1 (kd_name (k := k) rfl (dp_ex e3 hd))) ⟨ne, k.name, mn k hk, rfl⟩) H3 (Ex.refl _) _ fun d u H4 pd e4 hu => ?_
      obtain ⟨ht, pd⟩ := pd
      have pd := pd k.name rfl
      subst pd
      have lo := rkO_ok ok (ht k.name (mn k hk))
      have lp1 : (rkO ks k.name).parts ≤ 1021 := lo.parts
      have lp2 : (rkO ks k.name).dep ≤ 17 := lo.dep
      refine ⟨_, _, ⟨rkO ks k.name, ⟨by omega, by omega⟩, by decide, rfl, rfl⟩, .cons hu .nil, fun u2 H5 e5 hu2 => ?_⟩
      rw [← Lad.sort_word lo.pos] at hu2
      rw [dp_str hu2]
      obtain ⟨s1, s2⟩ := sIx_at (rkO ks k.name)
      refine ⟨aw, sorts.map V.str, _, plOf ks k.name, .str (rkO ks k.name).sortOf, rfl, rfl, ex_l (((e2.trans e3).trans e4).trans e5) hsw, rfl, fls, by rw [List.getElem?_map]; unfold plOf; rw [s1]; rfl, by show ((rkO ks k.name).sortOf == (rkO ks k.name).sortOf) = true; exact beq_self_eq_true _, fun m z' hm hz' => ?_, q3 H5 (e4.trans e5)⟩
      rw [List.getElem?_map] at hz'
      cases hsm : sorts[m]? with
      | none => rw [hsm] at hz'; cases hz'
      | some y =>
        rw [hsm] at hz'
        have ez : V.str y = z' := Option.some.inj hz'
        subst ez
        show (y == (rkO ks k.name).sortOf) = false
        refine beq_eq_false_iff_ne.mpr fun e => s2 m hm (by rw [hsm, e])
  let ns : List Int := ks.map fun k => (plOf ks k.name : Int)
  have en : (ks.map fun k => PyData.int (plOf ks k.name : Nat)) = ns.map PyData.int := by rw [List.map_map]; rfl
  rw [en] at eS
  refine q_asgD eS fun vs H2 e2 hs => ?_
  refine g_name ?_
  show (_ : TS) _ [some (.ref b), some v, some (.ref aw), some vs, none] H2
  have nne : names ks ≠ [] := fun e => ok.pos (List.map_eq_nil_iff.mp e)
  obtain ⟨m, nm, top⟩ := IsTop.all (plOf ks) nne
  obtain ⟨i, t1, t2, t3, t4⟩ := id top
  have hm4 : m < 4 := by rw [← t2]; exact sIx_le _
  obtain ⟨k, hki, hkn⟩ : ∃ k, ks[i]? = some k ∧ k.name = nm := by
    rw [names, List.getElem?_map] at t1
    cases e : ks[i]? with
    | none => rw [e] at t1; cases t1
    | some k => rw [e] at t1; exact ⟨k, rfl, Option.some.inj t1⟩
  have hmn : (m : Int) ∈ ns := List.mem_map.mpr ⟨k, List.mem_of_getElem? hki, by rw [hkn, t2]⟩
  have hmle : ∀ y ∈ ns, y ≤ (m : Int) := fun y hy => by
    obtain ⟨k', hk', rfl⟩ := List.mem_map.mp hy
    have := t3 k'.name (mn k' hk')
    omega
  have e12 := e1.trans e2
  have mx : ∀ {H3 : Hp}, Ex H2 H3 → Ev (tCB (rMax K) (tCons (tVar 3) tNil)) [some (.ref b), some v, some (.ref aw), some vs, none] H3 (.int (m : Nat)) := fun e3 => ev_max (ed_var rfl (dp_ex e3 hs)) hmn hmle
  obtain ⟨as, xs, rfl, hsq, hsx⟩ := dp_lst hs
  have hxs := dpa_ints_eq hsx
  subst hxs
  have fl2 : (ns.map V.int).all flatV = true := by
    rw [List.all_eq_true]
    intro x hx
    obtain ⟨z, _, rfl⟩ := List.mem_map.mp hx
    rfl
  have eI : Ev (tBM K "list" (rIndex K) (tVar 3) (tCons (tCB (rMax K) (tCons (tVar 3) tNil)) tNil)) [some (.ref b), some v, some (.ref aw), some (.ref as), none] H2 (.int (i : Nat)) := fun H3 e3 Q3 q3 => ⟨_, rfl, .inl ⟨rfl, _, ex_l e3 hsq⟩, mx e3 H3 (Ex.refl _) _ fun H4 e4 => ⟨as, ns.map V.int, .int (m : Nat), i, .int (m : Nat), rfl, rfl, ex_l (e3.trans e4) hsq, rfl, fl2, by rw [List.getElem?_map, List.getElem?_map, hki]; show some (V.int (plOf ks k.name : Int)) = _; rw [hkn, t2], by show ((m : Int) == (m : Int)) = true; exact beq_self_eq_true _, fun j z' hj hz' => by
    rw [List.getElem?_map, List.getElem?_map] at hz'
    cases ej : ks[j]? with
    | none => rw [ej] at hz'; cases hz'
    | some k' =>
      rw [ej] at hz'
      have ez : V.int (plOf ks k'.name : Int) = z' := Option.some.inj hz'
      subst ez
      have := t4 j k'.name hj (names_get ej)
      show ((plOf ks k'.name : Int) == (m : Int)) = false
      refine beq_eq_false_iff_ne.mpr fun e => ?_
      omega, q3 H4 e4⟩⟩
  refine s_retD (ed_tup (eda_2 (d := .str (sorts.getD m "")) (d' := .str nm) (ed_ixL (i := (m : Int)) (ed_var rfl (dp_ex e2 hw)) (ed_int (mx (Ex.refl _))) (atI_n (by rw [List.getElem?_map, sorts_at hm4]; rfl))) (ed_at (i := 0) (ds := [.str nm, .bool k.spr, .list (k.rules.map ruleD)]) (ed_ixL (i := (i : Int)) (d := .tuple [.str nm, .bool k.spr, .list (k.rules.map ruleD)]) (ed_var rfl (dp_ex e12 h1)) (ed_int eI) (atI_n (by rw [List.getElem?_map, hki]; show some (kindD k) = _; rw [kindD, hkn]))) rfl)) sz2) fun u H3 e3 hu => q m nm u H3 hm4 top (e12.trans e3) hu
end
end Fell

/-! FP14 -/
set_option Elab.async false
set_option linter.all false
set_option maxRecDepth 100000
set_option maxHeartbeats 4000000
/-! The law's draws. -/
namespace Fell
open PySem PySem.Spec PyProof.Rows L2 Evl
/-- a purse: digits, a seed -/
def Pu (H : Hp) (p : Addr) : Prop := ∃ d s : Int, H p = some (.lst [.int d, .int s]) ∧ 0 ≤ d ∧ 0 ≤ s ∧ s < 2147483629
theorem Pu.ex {H H' : Hp} {p : Addr} (h : Pu H p) (e : Ex H H') : Pu H' p := let ⟨d, s, a, b⟩ := h; ⟨d, s, e _ _ a, b⟩
theorem Pu.tx {H H' : Hp} {p : Addr} (h : Pu H p) (m : Mut p H H') : Tx H H' := let ⟨d, s, a, b⟩ := h; m.tx a
theorem Pu.other {H H' : Hp} {p L : Addr} (h : Pu H p) (m : Mut L H H') (n : p ≠ L) : Pu H' p := let ⟨d, s, a, b⟩ := h; ⟨d, s, m _ _ n a, b⟩
section
variable {P : Program} {w : World} {K : KK} {mg : Str → Option Value} {base : Heap} {aO aS B bI : Addr}
def spAt (K : KK) : Sp := fun vs H Q _ => ∃ v k ns, vs = [v, .int k] ∧ 0 ≤ k ∧ Dp K H v (.list ((ns : List Int).map PyData.int)) ∧ ∀ z H2, Ex H H2 → Q (.int z) H2
theorem c__law_at (T : Txt K mg aO aS B bI) : Cal P w K mg base 1 "_law_at" (spAt K) := by
  have sc : FnScope ["_law_script", "_law_k"] ["_law_script", "_law_k"] (defScope (top 75)) := ⟨rfl, rfl, rfl, by decide +kernel, rfl, by decide +kernel, by decide +kernel⟩
  refine calD T.a__law_at sc (fun vs H Q E ⟨_, _, _, e, _⟩ => by rw [e]; rfl) (fun _ _ _ _ _ _ us hl => match us, hl with | [_, _], _ => rfl) fun f cdv A outer s H vs Q E hr h => ?_
  refine ⟨_, (pss_cons (ps_if (pt_cmpR op_lt (pv 1) (pe_callB (show CallR _ _ (rLenS K) from call_len_seq) rfl T.n_len b_len (pa_cons (pv 0) pa_nil)) (nomark _)) (pss_one (ps_ret (pe_ix (show IxR _ (rIxL K) from ix_list) (pv 0) (pv 1) (fun _ _ => rfl)))) pss_nil)
    (pss_one (ps_ret pe_int))), ?_⟩
  obtain ⟨v, k, ns, rfl, hk, h1, q⟩ := h
  show (_ : TS) _ [some v, some (.int k)] H
  refine q_when (b := decide (k < (ns.length : Int))) (et_is (et_test (ev_op (ev_var rfl) (ev_lenL (ed_var rfl h1)) rv_I0)) (by rw [List.length_map])) (fun hb H1 e1 => ?_) fun hb H1 e1 => ?_
  · have hlt : k < (ns.length : Int) := of_decide_eq_true hb
    obtain ⟨j, rfl⟩ := Int.eq_ofNat_of_zero_le hk
    have hj : j < ns.length := by omega
    exact s_retD (d := .int ns[j]) (ed_ixL (ed_var rfl (dp_ex e1 h1)) (ed_int (ev_var rfl)) (atI_n (by rw [List.getElem?_map, List.getElem?_eq_getElem hj]; rfl))) fun u H2 e2 hu => by rw [dp_int hu]; exact q _ H2 (e1.trans e2)
  · exact s_ret ev_c fun H2 e2 => q _ H2 (e1.trans e2)
def spPurse : Sp := fun vs H Q _ => ∃ c k : Int, vs = [.int c, .int k] ∧ 0 ≤ k ∧ k ≤ 100 ∧ ∀ p H2, H p = none → Ex H H2 → Pu H2 p → Q (.ref p) H2
theorem modI {i j : Int} {H : Hp} (h : 0 < j) : RV (rI (fun _ j => 0 < j) fun i j => .int (i % j)) (.int i) (.int j) H (.int (i % j)) := rv_I h
theorem c__law_purse (T : Txt K mg aO aS B bI) : Cal P w K mg base 1 "_law_purse" spPurse := by
  have sc : FnScope ["_law_cell", "_law_salt", "_law_digits"] ["_law_cell", "_law_salt"] (defScope (top 76)) := ⟨rfl, rfl, rfl, by decide +kernel, rfl, by decide +kernel, by decide +kernel⟩
  refine calD T.a__law_purse sc (fun vs H Q E ⟨_, _, e, _⟩ => by rw [e]; rfl) (fun _ _ _ _ _ _ us hl => match us, hl with | [_, _], _ => rfl) fun f cdv A outer s H vs Q E hr h => ?_
  refine ⟨_, (pss_cons (ps_set (i := 2) sc.nd rfl (Or.inl rfl) pe_int)
    (pss_cons (ps_if (pt_bool (pw_or (pt_cmpR op_lt (pv 0) pe_int (nomark _)) (pw_or1 (pt_cmpR op_ge (pv 0) (pe_op op_pow pe_int pe_int) (nomark _))))) (pss_one (ps_set (i := 2) sc.nd rfl (Or.inl rfl) (pe_callB call_abs rfl T.n_abs b_abs (pa_cons (pv 0) pa_nil)))) pss_nil)
    (pss_one (ps_ret (pe_lst (pa_cons (pv 2) (pa_cons (pe_op op_mod (pe_op op_add (pe_op op_add (pe_op op_mod (pv 0) pe_int) (pe_op op_mul (pe_op op_mul pe_int (pv 1)) (pv 1))) pe_int) pe_int) pa_nil))))))), ?_⟩
  obtain ⟨c, k, rfl, hk, hk2, q⟩ := h
  show (_ : TS) _ [some (.int c), some (.int k), none] H
  refine q_asg ev_c fun H1 e1 => ?_
  show (_ : TS) _ [some (.int c), some (.int k), some (.int 0)] H1
  let b : Bool := decide (c < 0) || decide ((10 : Int) ^ (18 : Int).toNat ≤ c)
  let dg : Int := if b = true then (if c < 0 then -c else c) else 0
  have hdg : 0 ≤ dg := by
    show 0 ≤ (if b = true then (if c < 0 then -c else c) else 0)
    split
    · split <;> omega
    · omega
  refine q_ifAsg (b := b) (v := .int dg) (et_or (et_test (ev_op (ev_var rfl) ev_c rv_I0)) fun _ => et_test (ev_op (ev_var rfl) (ev_op ev_c ev_c (rv_I (C := CPow) (g := fun i j => .int (i ^ j.toNat)) ⟨by decide, by decide, by decide⟩)) rv_I0)) (fun hb => ev_is (ev_cb (z := .int (if c < 0 then -c else c)) (ea_cons (ev_var rfl) ea_nil) fun H2 e2 Q q => ⟨c, rfl, q H2 (Ex.refl _)⟩) (by show _ = V.int dg; show _ = V.int (if b = true then _ else _); rw [if_pos hb])) (fun hb => by show _ = _; show [some (V.int c), some (V.int k), some (V.int (if b = true then _ else _))] = _; rw [if_neg (by rw [hb]; decide)]) fun H2 e2 => ?_
  show (_ : TS) _ [some (.int c), some (.int k), some (.int dg)] H2
  let sd : Int := (c % 2147483629 + 104729 * k * k + 77) % 2147483629
  have h1 : 0 ≤ sd := Int.emod_nonneg _ (by decide)
  have h2 : sd < 2147483629 := Int.emod_lt_of_pos _ (by decide)
  have hkk : 104729 * k ≤ 10472900 := by omega
  refine s_retL (xs := [.int dg, .int sd]) (el_lst (ea_cons (ev_var rfl) (ea_cons (ev_op (ev_op (ev_op (ev_op (ev_var rfl) ev_c (modI (by decide))) (ev_op (ev_op ev_c (ev_var rfl) (rv_I (C := CMul) (Or.inr ⟨by omega, by omega⟩))) (ev_var rfl) (rv_I (C := CMul) (Or.inr ⟨by omega, by omega⟩))) rv_I0) ev_c rv_I0) ev_c (modI (by decide))) ea_nil)) (by show 2 ≤ 100000; decide)) fun p H3 hp e3 hl => ?_
  exact q p H3 (fresh_back (e1.trans e2) hp) ((e1.trans e2).trans e3) ⟨dg, sd, hl, hdg, h1, h2⟩
def spDraw : Sp := fun vs H Q _ => ∃ (p : Addr) (m : Int), vs = [.ref p, .int m] ∧ Pu H p ∧ 0 < m ∧ m < 1073741824 ∧ ∀ i H2, 0 ≤ i → i < m → Mut p H H2 → Pu H2 p → Q (.int i) H2
theorem c__law_draw (T : Txt K mg aO aS B bI) : Cal P w K mg base 1 "_law_draw" spDraw := by
  have sc : FnScope ["_law_purse_here", "_law_many", "_law_found", "_law_mixed"] ["_law_purse_here", "_law_many"] (defScope (top 77)) := ⟨rfl, rfl, rfl, by decide +kernel, rfl, by decide +kernel, by decide +kernel⟩
  refine calD T.a__law_draw sc (fun vs H Q E ⟨_, _, e, _⟩ => by rw [e]; rfl) (fun _ _ _ _ _ _ us hl => match us, hl with | [_, _], _ => rfl) fun f cdv A outer s H vs Q E hr h => ?_
  refine ⟨_, (pss_cons (ps_if (pt_cmpR op_gt (pe_ix (show IxR _ (rIxL K) from ix_list) (pv 0) pe_int (fun _ _ => rfl)) pe_int (nomark _)) (pss_cons (ps_set (i := 2) sc.nd rfl (Or.inl rfl) (pe_op op_mod (pe_ix (show IxR _ (rIxL K) from ix_list) (pv 0) pe_int (fun _ _ => rfl)) (pv 1)))
      (pss_cons (ps_asg (pe_op op_fdiv (pe_ix (show IxR _ (rIxL K) from ix_list) (pv 0) pe_int (fun _ _ => rfl)) (pv 1)) (pg_sub (pv 0) pe_int set_list))
      (pss_one (ps_ret (pv 2))))) pss_nil)
    (pss_cons (ps_asg (pe_op op_mod (pe_op op_add (pe_op op_mul (pe_ix (show IxR _ (rIxL K) from ix_list) (pv 0) pe_int (fun _ _ => rfl)) pe_int) pe_int) pe_int) (pg_sub (pv 0) pe_int set_list))
    (pss_cons (ps_set (i := 3) sc.nd rfl (Or.inl rfl) (pe_op op_mod (pe_op op_mul (pe_ix (show IxR _ (rIxL K) from ix_list) (pv 0) pe_int (fun _ _ => rfl)) (pe_ix (show IxR _ (rIxL K) from ix_list) (pv 0) pe_int (fun _ _ => rfl))) pe_int))
    (pss_one (ps_ret (pe_op op_mod (pe_op op_fdiv (pe_op op_mod (pe_op op_add (pe_op op_mul (pv 3) pe_int) (pe_ix (show IxR _ (rIxL K) from ix_list) (pv 0) pe_int (fun _ _ => rfl))) pe_int) pe_int) (pv 1))))))), ?_⟩
  obtain ⟨p, m, rfl, ⟨d, sd, hp, hd, hs1, hs2⟩, hm, hm2, q⟩ := h
  show (_ : TS) _ [some (.ref p), some (.int m), none, none] H
  have ix0 : ∀ {σ : L2.St} {H1 : Hp} {d s : Int}, σ[0]? = some (some (.ref p)) → H1 p = some (.lst [.int d, .int s]) → Ev (tOp (rIxL K) (tVar 0) (tC (.int 0))) σ H1 (.int d) := fun hs h => ev_op (ev_var hs) ev_c (rv_ixL (sq_of h) rfl)
  have ix1 : ∀ {σ : L2.St} {H1 : Hp} {d s : Int}, σ[0]? = some (some (.ref p)) → H1 p = some (.lst [.int d, .int s]) → Ev (tOp (rIxL K) (tVar 0) (tC (.int 1))) σ H1 (.int s) := fun hs h => ev_op (ev_var hs) ev_c (rv_ixL (sq_of h) rfl)
  refine q_when (b := decide (0 < d)) (et_test (ev_op (ix0 rfl hp) ev_c rv_I0)) (fun hb H1 e1 => ?_) fun hb H1 e1 => ?_
  · refine q_asg (ev_op (ix0 rfl (e1 _ _ hp)) (ev_var rfl) (modI hm)) fun H2 e2 => ?_
    show (_ : TS) _ [some (.ref p), some (.int m), some (.int (d % m)), none] H2
    have e12 := e1.trans e2
    refine q_setL (j := 0) (e12 _ _ hp) (ev_op (ix0 rfl (e12 _ _ hp)) (ev_var rfl) (rv_I (C := CDiv) ⟨hm, hm2⟩)) (ev_var rfl) ev_c (by show 0 < 2; decide) fun H3 e3 => ?_
    refine s_ret (ev_var rfl) fun H4 e4 => q _ H4 (Int.emod_nonneg _ (by omega)) (Int.emod_lt_of_pos _ hm) ((Mut.exl (e12.trans e3) .upd).exr e4) ⟨d / m, sd, e4 _ _ upd_same, Int.ediv_nonneg hd (by omega), hs1, hs2⟩
  · have sN : ∀ x : Int, 0 ≤ x % 2147483629 ∧ x % 2147483629 < 2147483629 := fun x => ⟨Int.emod_nonneg _ (by decide), Int.emod_lt_of_pos _ (by decide)⟩
    refine q_setL (j := 1) (e1 _ _ hp) (ev_op (ev_op (ev_op (ix1 rfl (e1 _ _ hp)) ev_c (rv_I (C := CMul) (Or.inl ⟨by omega, by omega⟩))) ev_c rv_I0) ev_c (modI (by decide))) (ev_var rfl) ev_c (by show 1 < 2; decide) fun H2 e2 => ?_
    obtain ⟨n1, n2⟩ := sN (sd * 48271 + 2531011)
    have hp2 : (upd H2 p (.lst [.int d, .int ((sd * 48271 + 2531011) % 2147483629)])) p = some (.lst [.int d, .int ((sd * 48271 + 2531011) % 2147483629)]) := upd_same
    have m2 : Mut p H (upd H2 p (.lst [.int d, .int ((sd * 48271 + 2531011) % 2147483629)])) := .exl (e1.trans e2) .upd
    show (_ : TS) _ [some (.ref p), some (.int m), none, none] (upd H2 p (.lst [.int d, .int ((sd * 48271 + 2531011) % 2147483629)]))
    revert hp2 m2 n1 n2
    generalize (sd * 48271 + 2531011) % 2147483629 = s2
    generalize upd H2 p (.lst [.int d, .int s2]) = H3
    intro n1 n2 hp2 m2
    refine q_asg (ev_op (ev_op (ix1 rfl hp2) (ix1 rfl hp2) (rv_I (C := CMul) (Or.inl ⟨by omega, by omega⟩))) ev_c (modI (by decide))) fun H4 e4 => ?_
    have hmx1 : 0 ≤ s2 * s2 % 2147483587 := Int.emod_nonneg _ (by decide)
    have hmx2 : s2 * s2 % 2147483587 < 2147483587 := Int.emod_lt_of_pos _ (by decide)
    revert hmx1 hmx2
    generalize s2 * s2 % 2147483587 = mx
    intro hmx1 hmx2
    show (_ : TS) _ [some (.ref p), some (.int m), none, some (.int mx)] H4
    refine s_ret (ev_op (ev_op (ev_op (ev_op (ev_op (ev_var rfl) ev_c (rv_I (C := CMul) (Or.inl ⟨by omega, by omega⟩))) (ix1 rfl (e4 _ _ hp2)) rv_I0) ev_c (modI (by decide))) ev_c (rv_I (C := CDiv) ⟨by decide, by decide⟩)) (ev_var rfl) (modI hm)) fun H5 e5 => ?_
    exact q _ H5 (Int.emod_nonneg _ (by omega)) (Int.emod_lt_of_pos _ hm) ((m2.exr e4).exr e5) ⟨d, s2, e5 _ _ (e4 _ _ hp2), hd, n1, n2⟩
end
end Fell

/-! FL8 -/
set_option Elab.async false
set_option linter.all false
set_option maxRecDepth 100000
set_option maxHeartbeats 4000000
/-! Expressions that draw; lists that are emptied into another one. -/
namespace Fell
open PySem PySem.Spec PyProof.Rows L2 Evl
def EvM (p : Addr) (te : TE) (σ : L2.St) (H : Hp) (Pst : V → Prop) : Prop := ∀ H1, Mut p H H1 → Pu H1 p → ∀ Q : VK, (∀ v H2, Pst v → Mut p H1 H2 → Pu H2 p → Q v H2) → te σ H1 Q
def IsI (m : Int) (v : V) : Prop := ∃ j : Int, v = .int j ∧ 0 ≤ j ∧ j < m
section
variable {K : KK} {σ : L2.St} {H H' : Hp} {p : Addr} {ta tb te : TE} {g : TG} {D : Ends} {tz tu tw : TS} {P1 P2 : V → Prop}
theorem EvM.mono (h : EvM p te σ H P1) (m : Mut p H H') : EvM p te σ H' P1 := fun H1 m1 pu Q q => h H1 (m.trans m1) pu Q q
theorem em_draw {i : Nat} {m : Int} (hi : σ[i]? = some (some (.ref p))) (h : ∀ H1, Mut p H H1 → Pu H1 p → Ev te σ H1 (.int m)) (h0 : 0 < m) (h1 : m < 1073741824) : EvM p (tCall spDraw [] E0 (tCons (tVar i) (tCons te tNil))) σ H (IsI m) := fun H1 m1 pu Q q =>
  ⟨_, hi, h H1 m1 pu H1 (Ex.refl _) _ fun H2 e2 => ⟨p, m, rfl, pu.ex e2, h0, h1, fun i H3 a b m3 pu3 => q _ H3 ⟨i, rfl, a, b⟩ (.exl e2 m3) pu3⟩⟩
theorem em_drawC {i : Nat} {m : Int} (hi : σ[i]? = some (some (.ref p))) (h0 : 0 < m) (h1 : m < 1073741824) : EvM p (tCall spDraw [] E0 (tCons (tVar i) (tCons (tC (.int m)) tNil))) σ H (IsI m) := em_draw hi (fun _ _ _ => ev_c) h0 h1
theorem em_ev {v : V} (h : ∀ H1, Mut p H H1 → Pu H1 p → Ev te σ H1 v) : EvM p te σ H (· = v) := fun H1 m1 pu Q q => h H1 m1 pu H1 (Ex.refl _) Q fun H2 e2 => q v H2 rfl (.of_ex e2) (pu.ex e2)
theorem em_addC {c m : Int} (h : EvM p te σ H (IsI m)) : EvM p (tOp (rI0 fun i j => .int (i + j)) (tC (.int c)) te) σ H (fun v => ∃ j : Int, v = .int (c + j) ∧ 0 ≤ j ∧ j < m) := fun H1 m1 pu Q q =>
  h H1 m1 pu _ fun v H2 ⟨j, e, a, b⟩ m2 pu2 => ⟨c, j, rfl, e, q _ H2 ⟨j, rfl, a, b⟩ m2 pu2⟩
theorem q_asgM (pu : Pu H p) (h : EvM p te σ H P1) (k : ∀ v H1, P1 v → Mut p H H1 → Pu H1 p → g v σ H1 (tz D)) : tSeq (tAsg te g) tz D σ H := h H (.of_ex (Ex.refl _)) pu _ k
theorem s_asgM (pu : Pu H p) (h : EvM p te σ H P1) (k : ∀ v H1, P1 v → Mut p H H1 → Pu H1 p → g v σ H1 D.nx) : tAsg te g D σ H := h H (.of_ex (Ex.refl _)) pu _ k
/-- draw == c, either way -/
def EtM (p : Addr) (t : TT) (σ : L2.St) (H : Hp) : Prop := ∀ H1, Mut p H H1 → Pu H1 p → ∀ Q : Bool → Hp → Prop, (∀ b H2, Mut p H1 H2 → Pu H2 p → Q b H2) → t σ H1 Q
theorem tm_eq {c m : Int} (h : EvM p te σ H (IsI m)) : EtM p (tTest (tOp rEq te (tC (.int c)))) σ H := fun H1 m1 pu Q q =>
  h H1 m1 pu _ fun v H2 ⟨j, e, _, _⟩ m2 pu2 => by
    subst e
    exact ⟨rfl, _, rfl, q _ H2 m2 pu2⟩
theorem em_eqV {c m : Int} (h : EvM p te σ H (IsI m)) : EvM p (tOp rEq te (tC (.int c))) σ H (fun v => ∃ b : Bool, v = .bl b) := fun H1 m1 pu Q q =>
  h H1 m1 pu _ fun v H2 ⟨j, e, _, _⟩ m2 pu2 => by
    subst e
    exact ⟨rfl, q _ H2 ⟨_, rfl⟩ m2 pu2⟩
theorem s_ifM {t : TT} (pu : Pu H p) (h : EtM p t σ H) (h1 : ∀ H1, Mut p H H1 → Pu H1 p → tu D σ H1) (h2 : ∀ H1, Mut p H H1 → Pu H1 p → tw D σ H1) : tIfS t tu tw D σ H := h H (.of_ex (Ex.refl _)) pu _ fun b H2 m2 pu2 => by
  cases b with
  | true => exact h1 H2 m2 pu2
  | false => exact h2 H2 m2 pu2
theorem q_ifM {t : TT} (pu : Pu H p) (h : EtM p t σ H) (h1 : ∀ H1, Mut p H H1 → Pu H1 p → tu { D with nx := tz D } σ H1) (h2 : ∀ H1, Mut p H H1 → Pu H1 p → tw { D with nx := tz D } σ H1) : tSeq (tIfS t tu tw) tz D σ H := s_ifM (D := { D with nx := tz D }) pu h h1 h2
/-- a comprehension over a range whose items draw -/
theorem em_lcR {n : Nat} {tn : TA} {j : Nat} {vs : List Nat} (h : ∀ H1, Mut p H H1 → Pu H1 p → EvA tn σ H1 [.int (n : Nat)]) (hn : n ≤ 10000) (hw : ∀ x, wipe ((wipe σ vs).set j (some x)) vs = wipe σ vs)
    (he : ∀ i : Nat, i < n → EvM p te ((wipe σ vs).set j (some (.int (i : Nat)))) H P1) : ∀ H1, Mut p H H1 → Pu H1 p → ∀ Q : VK, (∀ L H2 acc, H1 L = none → Mut p H1 H2 → Pu H2 p → H2 L = some (.lst acc) → acc.length = n → (∀ v ∈ acc, P1 v) → Q (.ref L) H2) → tLc (iRng1 tn) (gName j) tYes te vs σ H1 Q := fun H1 m1 pu Q q =>
  h H1 m1 pu H1 (Ex.refl _) _ fun H2 e2 => ⟨(n : Nat), rfl, by omega, by omega, fun L hL => by
    have pu2 := pu.ex e2
    have hLp : p ≠ L := fun e => by
      obtain ⟨d, s, a, _⟩ := pu2
      rw [e, hL] at a
      cases a
    refine lc_range (lo := 0) (n := n) (fun i H' => Mut p H2 H' ∧ Pu H' p ∧ ∃ acc, H' L = some (.lst acc) ∧ acc.length = i ∧ ∀ v ∈ acc, P1 v) ⟨.of_ex (Ex.new hL), pu2.ex (Ex.new hL), [], upd_same, rfl, fun v hv => nomatch hv⟩ (fun i H' hi pv => ?_) fun H' pv => ?_
    · obtain ⟨m', pu', acc, hacc, hlen, hall⟩ := pv
      have e0 : (0 : Int) + (i : Int) = (i : Int) := Int.zero_add _
      show wipe ((wipe σ vs).set j (some (.int ((0 : Int) + (i : Int))))) vs = wipe σ vs ∧ te ((wipe σ vs).set j (some (.int ((0 : Int) + (i : Int))))) H' fun y H4 => _
      rw [e0]
      refine ⟨hw _, he i hi H' ((m1.exr e2).trans m') pu' _ fun v H4 hv m4 pu4 => ?_⟩
      have hacc4 := m4 _ _ (Ne.symm hLp) hacc
      refine ⟨acc, hacc4, sz_lt (by omega), ?_, pu4.other .upd hLp, acc ++ [v], upd_same, by rw [List.length_append, hlen]; rfl, fun u hu => ?_⟩
      · intro a o na ha
        have hne : a ≠ L := ne_of_none ha hL
        rw [upd_ne hne]
        exact (m'.trans m4) a o na ha
      · rcases List.mem_append.mp hu with hu | hu
        · exact hall u hu
        · rw [List.mem_singleton.mp hu]; exact hv
    · obtain ⟨m', pu', acc, hacc, hlen, hall⟩ := pv
      exact q L H' acc (fresh_back e2 hL) (.exl e2 m') pu' hacc hlen hall⟩
/-- all but three stand -/
def Mut3 (p a b : Addr) (H H' : Hp) : Prop := ∀ x o, x ≠ p → x ≠ a → x ≠ b → H x = some o → H' x = some o
theorem tx3 {a b : Addr} {xs ys zs : List V} (m : Mut3 p a b H H') (hp : H p = some (.lst xs)) (ha : H a = some (.lst ys)) (hb : H b = some (.lst zs)) : Tx H H' := fun x ws q => by
  have n1 : ∀ {y : Addr} {us : List V}, H y = some (.lst us) → x ≠ y := fun hy e => by
    rw [e] at q
    rcases q with q | ⟨ob, q⟩ <;> (rw [hy] at q; cases q)
  rcases q with q | ⟨ob, q⟩
  · exact .inl (m x _ (n1 hp) (n1 ha) (n1 hb) q)
  · exact .inr ⟨ob, m x _ (n1 hp) (n1 ha) (n1 hb) q⟩
/-- two lists of the same length, place by place -/
inductive All2 {α β : Type} (R : α → β → Prop) : List α → List β → Prop where
  | nil : All2 R [] []
  | cons {a : α} {b : β} {l : List α} {m : List β} (h : R a b) (t : All2 R l m) : All2 R (a :: l) (b :: m)
theorem All2.len {α β : Type} {R : α → β → Prop} : ∀ {l : List α} {m : List β}, All2 R l m → l.length = m.length
  | _, _, .nil => rfl
  | _, _, .cons _ t => by rw [List.length_cons, List.length_cons, t.len]
theorem All2.imp {α β : Type} {R S : α → β → Prop} : ∀ {l : List α} {m : List β}, All2 R l m → (∀ a b, b ∈ m → R a b → S a b) → All2 S l m
  | _, _, .nil, _ => .nil
  | _, _, .cons h t, f => .cons (f _ _ List.mem_cons_self h) (t.imp fun a b hb h => f a b (List.mem_cons_of_mem _ hb) h)
theorem All2.app {α β : Type} {R : α → β → Prop} : ∀ {l l' : List α} {m m' : List β}, All2 R l m → All2 R l' m' → All2 R (l ++ l') (m ++ m')
  | _, _, _, _, .nil, h => h
  | _, _, _, _, .cons h t, k => .cons h (t.app k)
theorem All2.get {α β : Type} {R : α → β → Prop} : ∀ {l : List α} {m : List β} {i : Nat}, All2 R l m → i < m.length → ∃ a b, l[i]? = some a ∧ m[i]? = some b ∧ R a b
  | _, _, _, .nil, h => absurd h (Nat.not_lt_zero _)
  | _, _, 0, .cons h t, _ => ⟨_, _, rfl, rfl, h⟩
  | _, _, i + 1, .cons h t, hi => by
    obtain ⟨a, b, x, y, z⟩ := t.get (i := i) (by simpa using hi)
    exact ⟨a, b, by simpa using x, by simpa using y, z⟩
theorem All2.del {α β : Type} {R : α → β → Prop} : ∀ {l : List α} {m : List β} (i : Nat), All2 R l m → All2 R (l.eraseIdx i) (m.eraseIdx i)
  | _, _, _, .nil => .nil
  | _, _, 0, .cons h t => t
  | _, _, i + 1, .cons h t => .cons h (t.del i)
theorem all2_dpa {α : Type} {R : V → α → Prop} {enc : α → PyData} (h : ∀ v a, R v a → Dp K H v (enc a)) : ∀ {l : List V} {m : List α}, All2 R l m → DpAll K H l (m.map enc)
  | _, _, .nil => .nil
  | _, _, .cons a t => .cons (h _ _ a) (all2_dpa h t)
theorem perm_del {α : Type} : ∀ {l : List α} {i : Nat} {a : α}, l[i]? = some a → (a :: l.eraseIdx i).Perm l
  | [], i, a, h => by simp at h
  | x :: l, 0, a, h => by
    have e : x = a := by simpa using h
    subst e
    exact .refl _
  | x :: l, i + 1, a, h => by
    have e : l[i]? = some a := by simpa using h
    have := perm_del e
    show (a :: x :: l.eraseIdx i).Perm (x :: l)
    exact (List.Perm.swap x a _).trans (this.cons x)
theorem sq_ix {i n : Nat} (h : i < n) : seqIndex? (i : Int) n = some i := by
  unfold seqIndex?
  simp
  omega
/-- while a != []: b.append(a.pop(draw(p, len(a)))) -/
theorem pop_loop {α : Type} {Rel : Hp → V → α → Prop} {enc : α → PyData} {l0 : List α} {la lb : Addr} {a b c : Nat} {xs : List V}
    (toD : ∀ H v x, Rel H v x → Dp K H v (enc x)) (st : ∀ H H' v x, Rel H v x → Mut3 p la lb H H' → Tx H H' → Rel H' v x) (sh : ∀ ls : List α, (∀ x ∈ ls, x ∈ l0) → SeqAt.shaped (.list (ls.map enc)) = true)
    (ha : σ[a]? = some (some (.ref la))) (hb : σ[b]? = some (some (.ref lb))) (hc : σ[c]? = some (some (.ref p))) (h1 : H la = some (.lst xs)) (r1 : All2 (Rel H) xs l0) (h2 : H lb = some (.lst [])) (pu : Pu H p) (nab : la ≠ lb) (nap : la ≠ p) (nbp : lb ≠ p) (hl : l0.length ≤ 1000)
    (k : ∀ H' ys l, H' lb = some (.lst ys) → All2 (Rel H') ys l → l.Perm l0 → Mut3 p la lb H H' → Pu H' p → tz D σ H') :
    tSeq (tWhile (tTest (tOp (rNeD K) (tVar a) (tLst tNil))) (tDrop (tBM K "list" rAppend (tVar b) (tCons (tBM K "list" rPopAt (tVar a) (tCons (tCall spDraw [] E0 (tCons (tVar c) (tCons (tCB (rLenS K) (tCons (tVar a) tNil)) tNil))) tNil)) tNil)))) tz D σ H := by
  refine q_while (fun m σ' H' => σ' = σ ∧ ∃ xs ys ls ms, m = ls.length ∧ H' la = some (.lst xs) ∧ H' lb = some (.lst ys) ∧ All2 (Rel H') xs ls ∧ All2 (Rel H') ys ms ∧ (ls ++ ms).Perm l0 ∧ Mut3 p la lb H H' ∧ Pu H' p) l0.length ⟨rfl, xs, [], l0, [], rfl, h1, h2, r1, .nil, by rw [List.append_nil], fun _ _ _ _ _ h => h, pu⟩ ?_
  rintro m σ' H1 ⟨rfl, xs, ys, ls, ms, rfl, g1, g2, s1, s2, pm, m3, pu1⟩
  have hlen := pm.length_eq
  rw [List.length_append] at hlen
  have hxl := s1.len
  have hyl := s2.len
  have dl : Dp K H1 (.ref la) (.list (ls.map enc)) := .lst (sq_of g1) (all2_dpa (toD H1) s1)
  have sub : ∀ x ∈ ls, x ∈ l0 := fun x hx => pm.mem_iff.mp (List.mem_append_left _ hx)
  refine ⟨!decide (ls = []), et_is (et_test (ev_neD (d := .list (ls.map enc)) (d' := .list []) (ed_var ha dl) ed_nilL (sh ls sub) shaped_nilL)) (by rw [eqv_nilL]; cases ls <;> simp), fun hb1 H2 e2 => ?_, fun hb1 H2 e2 => ?_⟩
  · have hne : ls ≠ [] := by simpa using hb1
    have hpos : 0 < ls.length := List.length_pos_iff.mpr hne
    refine ⟨fun σ3 H3 => σ3 = σ' ∧ ∃ xs ys ls' ms, ls'.length < ls.length ∧ H3 la = some (.lst xs) ∧ H3 lb = some (.lst ys) ∧ All2 (Rel H3) xs ls' ∧ All2 (Rel H3) ys ms ∧ (ls' ++ ms).Perm l0 ∧ Mut3 p la lb H H3 ∧ Pu H3 p, fun σ3 H3 ⟨e, xs, ys, ls', ms, hlt, r⟩ => ⟨ls'.length, hlt, e, xs, ys, ls', ms, rfl, r⟩, ?_⟩
    have g1' := e2 _ _ g1
    have g2' := e2 _ _ g2
    have pu2 := pu1.ex e2
    refine ⟨_, hb, .inl ⟨rfl, _, sq_of g2'⟩, _, ha, .inl ⟨rfl, _, sq_of g1'⟩, _, hc, _, ha, la, xs, rfl, .inl (sq_of g1'), p, (xs.length : Int), rfl, pu2, by omega, by omega, fun j H3 j0 jl m3' pu3 => ?_⟩
    obtain ⟨i, rfl⟩ := Int.eq_ofNat_of_zero_le j0
    have hi : i < xs.length := by omega
    have q1 := m3' _ _ nap g1'
    have q2 := m3' _ _ nbp g2'
    obtain ⟨v, x, hv, hx, rv⟩ := s1.get (i := i) (by omega)
    refine ⟨la, xs, (i : Int), i, v, rfl, rfl, q1, by omega, by omega, sq_ix hi, hv, ?_⟩
    have q2' : (upd H3 la (.lst (xs.eraseIdx i))) lb = some (.lst ys) := by rw [upd_ne (Ne.symm nab)]; exact q2
    refine ⟨lb, ys, v, rfl, rfl, q2', sz_lt (by omega), ?_⟩
    have mt : Mut3 p la lb H1 (upd (upd H3 la (.lst (xs.eraseIdx i))) lb (.lst (ys ++ [v]))) := fun y o n1 n2 n3 h => by
      rw [upd_ne n3, upd_ne n2]
      exact m3' y o n1 (e2 y o h)
    obtain ⟨dd, sd, hpp, _⟩ := id pu1
    have tt : Tx H1 (upd (upd H3 la (.lst (xs.eraseIdx i))) lb (.lst (ys ++ [v]))) := tx3 mt hpp g1 g2
    have p1 : (ls.eraseIdx i ++ (ms ++ [x])).Perm ((x :: ls.eraseIdx i) ++ ms) := by
      rw [← List.append_assoc]
      exact List.perm_append_singleton x _
    refine ⟨rfl, xs.eraseIdx i, ys ++ [v], ls.eraseIdx i, ms ++ [x], ?_, by rw [upd_ne nab]; exact upd_same, upd_same, (s1.del i).imp fun u z _ h => st _ _ _ _ h mt tt, (s2.imp fun u z _ h => st _ _ _ _ h mt tt).app (.cons (st _ _ _ _ rv mt tt) .nil), (p1.trans ((perm_del hx).append_right ms)).trans pm, fun y o n1 n2 n3 h => mt y o n1 n2 n3 (m3 y o n1 n2 n3 h), (pu3.other .upd (Ne.symm nap)).other .upd (Ne.symm nbp)⟩
    rw [List.length_eraseIdx]
    split <;> omega
  · have hnil : ls = [] := by simpa using hb1
    subst hnil
    refine k H2 ys ms (e2 _ _ g2) (s2.imp fun u z _ h => st _ _ _ _ h (fun y o _ _ _ h => e2 y o h) (tx_ex e2)) pm (fun y o n1 n2 n3 h => e2 y o (m3 y o n1 n2 n3 h)) (pu1.ex e2)
end
end Fell

/-! FM6 -/
set_option Elab.async false
set_option linter.all false
set_option maxRecDepth 100000
set_option maxHeartbeats 4000000
/-! Plain Lean: names that are drawn. -/
namespace Fell
open PySem PySem.Spec PyProof.Rows L2 Evl
abbrev S' (l : List Nat) : Str := ⟨l.toArray⟩
def Lt (c : Nat) : Prop := c ∈ letters.cps.toList
theorem nameOk_S {l : List Nat} (h1 : 1 ≤ l.length) (h2 : l.length ≤ 8) (h : ∀ c ∈ l, Lt c) : NameOk (S' l) := ⟨h1, h2, h⟩
theorem S_inj' {a b : List Nat} (h : S' a = S' b) : a = b := congrArg (fun x : Str => x.cps.toList) h
theorem join_ones : ∀ cs : List Nat, TL.joinL [] (cs.map fun c => [c]) = cs
  | [] => rfl
  | [c] => rfl
  | c :: d :: r => by
    have h := join_ones (d :: r)
    show [c] ++ ([] ++ TL.joinL [] ((d :: r).map fun c => [c])) = c :: d :: r
    rw [h]
    rfl
theorem join_text (cs : List Nat) : Txt.join (S' []) (cs.map fun c => S' [c]) = S' cs := by
  have h := SX.join_S [] (cs.map fun c => [c])
  rw [join_ones, List.map_map] at h
  exact h
theorem signs_of : ∀ {acc : List V}, (∀ v ∈ acc, ∃ c, Lt c ∧ v = .str ⟨#[c]⟩) → ∃ cs : List Nat, acc = (cs.map fun c => S' [c]).map V.str ∧ ∀ c ∈ cs, Lt c
  | [], _ => ⟨[], rfl, fun _ h => nomatch h⟩
  | v :: acc, h => by
    obtain ⟨c, hc, rfl⟩ := h v List.mem_cons_self
    obtain ⟨cs, rfl, hcs⟩ := signs_of fun u hu => h u (List.mem_cons_of_mem _ hu)
    exact ⟨c :: cs, rfl, fun x hx => by
      rcases List.mem_cons.mp hx with rfl | hx
      · exact hc
      · exact hcs x hx⟩
/-- begins of a word -/
def begins (w : List Nat) (m : Nat) : List Str := (List.range m).map fun k => S' (w.take (k + 1))
theorem begins_ok {w : List Nat} (hw : w.length = 8) (hl : ∀ c ∈ w, Lt c) {m : Nat} (hm : m ≤ 8) : (begins w m).Nodup ∧ (∀ n ∈ begins w m, NameOk n) ∧ (begins w m).length = m := by
  refine ⟨?_, fun n hn => ?_, by rw [begins, List.length_map, List.length_range]⟩
  · refine List.nodup_iff_pairwise_ne.mpr (List.pairwise_map.mpr ?_)
    refine List.Pairwise.imp_of_mem ?_ List.pairwise_lt_range
    intro a b ha hb hab e
    have h1 := List.mem_range.mp ha
    have h2 := List.mem_range.mp hb
    have := congrArg List.length (S_inj' e)
    rw [List.length_take, List.length_take] at this
    omega
  · obtain ⟨k, hk, rfl⟩ := List.mem_map.mp hn
    have := List.mem_range.mp hk
    exact nameOk_S (by rw [List.length_take]; omega) (by rw [List.length_take]; omega) fun c hc => hl c (List.mem_of_mem_take hc)
def steps : List Int := [1, 3, 5, 7, 9, 11, 15, 17]
def placeAt (f s : Int) (k : Nat) : Nat := ((f + s * (k : Int)) % 26).toNat
theorem place_ne {f s : Int} (hs : s ∈ steps) {a b : Nat} (ha : a < 8) (hb : b < 8) (h : a < b) : placeAt f s a ≠ placeAt f s b := by
  unfold placeAt
  have h1 : 0 ≤ (f + s * (a : Int)) % 26 := Int.emod_nonneg _ (by decide)
  have h2 : 0 ≤ (f + s * (b : Int)) % 26 := Int.emod_nonneg _ (by decide)
  intro e
  have e' : (f + s * (a : Int)) % 26 = (f + s * (b : Int)) % 26 := by omega
  simp only [steps, List.mem_cons, List.not_mem_nil, or_false] at hs
  rcases hs with rfl | rfl | rfl | rfl | rfl | rfl | rfl | rfl <;> omega
theorem letters_len : letters.cps.toList.length = 26 := by decide
theorem letters_nd : letters.cps.toList.Nodup := by decide
def signAt (i : Nat) : Nat := letters.cps.toList.getD i 97
theorem signAt_get {i : Nat} (h : i < 26) : letters.cps.toList[i]? = some (signAt i) := by
  have hl : i < letters.cps.toList.length := by rw [letters_len]; exact h
  rw [signAt, List.getD_eq_getElem?_getD, List.getElem?_eq_getElem hl]
  rfl
theorem signAt_lt {i : Nat} (h : i < 26) : Lt (signAt i) := List.mem_of_getElem? (signAt_get h)
theorem signAt_inj {i j : Nat} (hi : i < 26) (hj : j < 26) (e : signAt i = signAt j) : i = j := by
  have h1 := signAt_get hi
  have h2 := signAt_get hj
  rw [e] at h1
  have hl : i < letters.cps.toList.length := by rw [letters_len]; exact hi
  exact (List.getElem?_inj hl letters_nd).mp (h1.trans h2.symm)
theorem place_lt (f s : Int) (k : Nat) : placeAt f s k < 26 := by
  unfold placeAt
  have h1 : 0 ≤ (f + s * (k : Int)) % 26 := Int.emod_nonneg _ (by decide)
  have h2 : (f + s * (k : Int)) % 26 < 26 := Int.emod_lt_of_pos _ (by decide)
  omega
/-- words that differ at one place -/
def oneWord (w : List Nat) (at_ wide : Nat) (c : Nat) : List Nat := (w.take at_ ++ [c]) ++ (w.drop (at_ + 1)).take (wide - (at_ + 1))
def spread1 (w : List Nat) (at_ wide : Nat) (f s : Int) (m : Nat) : List Str := (List.range m).map fun k => S' (oneWord w at_ wide (signAt (placeAt f s k)))
theorem spread1_ok {w : List Nat} (hw : w.length = 8) (hl : ∀ c ∈ w, Lt c) {at_ wide : Nat} (h1 : at_ < wide) (h2 : wide ≤ 8) {f s : Int} (hs : s ∈ steps) {m : Nat} (hm : m ≤ 8) :
    (spread1 w at_ wide f s m).Nodup ∧ (∀ n ∈ spread1 w at_ wide f s m, NameOk n) ∧ (spread1 w at_ wide f s m).length = m := by
  refine ⟨?_, fun n hn => ?_, by rw [spread1, List.length_map, List.length_range]⟩
  · refine List.nodup_iff_pairwise_ne.mpr (List.pairwise_map.mpr ?_)
    refine List.Pairwise.imp_of_mem ?_ List.pairwise_lt_range
    intro a b ha hb hab e
    have h1' := List.mem_range.mp ha
    have h2' := List.mem_range.mp hb
    have e2 := S_inj' e
    unfold oneWord at e2
    have e3 := List.append_cancel_right e2
    have e4 := List.append_cancel_left e3
    have e5 : signAt (placeAt f s a) = signAt (placeAt f s b) := by simpa using e4
    exact place_ne hs (by omega) (by omega) hab (signAt_inj (place_lt _ _ _) (place_lt _ _ _) e5)
  · obtain ⟨k, hk, rfl⟩ := List.mem_map.mp hn
    have hlen : (oneWord w at_ wide (signAt (placeAt f s k))).length = wide := by
      unfold oneWord
      rw [List.length_append, List.length_append, List.length_take, List.length_take, List.length_drop, List.length_singleton]
      omega
    refine nameOk_S (by omega) (by omega) fun c hc => ?_
    unfold oneWord at hc
    rcases List.mem_append.mp hc with hc | hc
    · rcases List.mem_append.mp hc with hc | hc
      · exact hl c (List.mem_of_mem_take hc)
      · rw [List.mem_singleton.mp hc]; exact signAt_lt (place_lt _ _ _)
    · exact hl c (List.mem_of_mem_drop (List.mem_of_mem_take hc))
end Fell

/-! FP15 -/
set_option Elab.async false
set_option linter.all false
set_option maxRecDepth 100000
set_option maxHeartbeats 4000000
/-! Names that the law draws. -/
namespace Fell
open PySem PySem.Spec PyProof.Rows L2 Evl
section
variable {P : Program} {w : World} {K : KK} {mg : Str → Option Value} {base : Heap} {aO aS B bI : Addr}
theorem given_all (n : Nat) (v : Nat → V) : given n (fun _ => true) v = (List.range n).map v := by unfold given; rw [filter_all]
theorem rv_cutTo {H : Hp} {x : List Nat} {k : Nat} (hx : x.length ≤ 100) : ∀ Q : VK, Q (.str (S' (x.take k))) H → rSlS (.str (S' x)) none (some (k : Int)) H Q := fun Q q => by
  refine ⟨S' x, rfl, sz_of (by show x.length ≤ 100000; omega), ?_⟩
  have e : cutS (S' x) none (some (k : Int)) = S' (x.take k) := by
    unfold cutS
    have e1 : HT.sIx (S' x).length 0 none = 0 := rfl
    have e2 : HT.sIx (S' x).length (S' x).length (some (k : Int)) = min k x.length := HT.sIx_nat _ _ _
    rw [e1, e2]
    show S' ((x.drop 0).take (min k x.length - 0)) = S' (x.take k)
    rw [List.drop_zero, Nat.sub_zero, ← List.take_eq_take_min]
  rw [e]
  exact q
theorem rv_cutMid {H : Hp} {x : List Nat} {i k : Nat} (hx : x.length ≤ 100) (hi : i ≤ x.length) (hk : k ≤ x.length) : ∀ Q : VK, Q (.str (S' ((x.drop i).take (k - i)))) H → rSlS (.str (S' x)) (some (i : Int)) (some (k : Int)) H Q := fun Q q => by
  refine ⟨S' x, rfl, sz_of (by show x.length ≤ 100000; omega), ?_⟩
  have e : cutS (S' x) (some (i : Int)) (some (k : Int)) = S' ((x.drop i).take (k - i)) := by
    unfold cutS
    have e1 : HT.sIx (S' x).length 0 (some (i : Int)) = min i x.length := HT.sIx_nat _ _ _
    have e2 : HT.sIx (S' x).length (S' x).length (some (k : Int)) = min k x.length := HT.sIx_nat _ _ _
    rw [e1, e2, Nat.min_eq_left hi, Nat.min_eq_left hk]
  rw [e]
  exact q
theorem tc_one {te : TE} {σ : L2.St} {H : Hp} {Q : List V → Hp → Prop} (h : te σ H fun v H1 => Q [v] H1) : tCons te tNil σ H Q := h
theorem tc_in {te : TE} {tr : TA} {σ : L2.St} {H : Hp} {Q : List V → Hp → Prop} (h : te σ H fun v H1 => tr σ H1 fun vs H2 => Q (v :: vs) H2) : tCons te tr σ H Q := h
theorem top_in {ta tb : TE} {r : R2} {σ : L2.St} {H : Hp} {Q : VK} (h : ta σ H fun x H1 => tb σ H1 fun y H2 => r x y H2 Q) : tOp r ta tb σ H Q := h
theorem ttup_in {ta : TA} {σ : L2.St} {H : Hp} {Q : VK} (h : ta σ H fun xs H1 => xs.length ≤ sizeLine ∧ ∀ p, H1 p = none → Q (.ref p) (upd H1 p (.tup xs))) : tTup ta σ H Q := h
def spNmz : Sp := fun vs H Q _ => ∃ (p : Addr) (m : Nat), vs = [.ref p, .int (m : Nat)] ∧ Pu H p ∧ 1 ≤ m ∧ m ≤ 8 ∧ ∀ (lf : Addr) H2 (N : List Str), N.Nodup → (∀ n ∈ N, NameOk n) → N.length = m → H lf = none → Mut p H H2 → Pu H2 p → H2 lf = some (.lst (N.map V.str)) → Q (.ref lf) H2
theorem pu_ne {H : Hp} {p l : Addr} (pu : Pu H p) (h : H l = none) : l ≠ p := fun e => by
  obtain ⟨d, s, a, _⟩ := pu
  rw [e, a] at h
  cases h
theorem all2_self : ∀ N : List Str, All2 (fun (v : V) (x : Str) => v = .str x) (N.map V.str) N
  | [] => .nil
  | n :: N => .cons rfl (all2_self N)
theorem all2_strs : ∀ {xs : List V} {N : List Str}, All2 (fun (v : V) (x : Str) => v = .str x) xs N → xs = N.map V.str
  | _, _, .nil => rfl
  | _, _, .cons h t => by rw [h, all2_strs t]; rfl
theorem c__law_names (T : Txt K mg aO aS B bI) : Cal P w K mg base 2 "_law_names" spNmz := by
  have c__law_draw := c__law_draw (P := P) (w := w) (base := base) T
  have sc : FnScope ["_law_purse_here", "_law_many", "_law_letters", "_law_word_here", "_law_names_here", "_law_wide", "_law_at_here", "_law_first", "_law_step", "_law_signs", "_law_found", "_law_turn", "_law_k", "_law_sign"] ["_law_purse_here", "_law_many"] (defScope (top 78)) := ⟨rfl, rfl, rfl, by decide +kernel, rfl, by decide +kernel, by decide +kernel⟩
  refine calD T.a__law_names sc (fun vs H Q E ⟨_, _, e, _⟩ => by rw [e]; rfl) (fun _ _ _ _ _ _ us hl => match us, hl with | [_, _], _ => rfl) fun f cdv A outer s H vs Q E hr h => ?_
  refine ⟨_, (pss_cons (ps_set (i := 2) sc.nd rfl (Or.inr rfl) pe_str)
    (pss_cons (ps_set (i := 3) sc.nd rfl (Or.inr rfl) (pe_join pe_str (pe_lc (own := [("_law_turn", 11)]) rfl sc.nd (pi_range1 rfl T.n_range (pa_cons pe_int pa_nil)) (blkOk_by (N := ["_law_purse_here", "_law_many", "_law_letters", "_law_word_here", "_law_names_here", "_law_wide", "_law_at_here", "_law_first", "_law_step", "_law_signs", "_law_found", "_law_turn", "_law_k", "_law_sign"]) (sc := (defScope (top 78))) (own := [("_law_turn", 11)]) (by decide +kernel)) (fun _ _ _ _ _ => (pg_name (i := 11) sc.nd rfl (Or.inl rfl))) (fun _ _ _ _ _ => pts_nil) (fun _ _ _ _ _ => (pe_ix ix_str (pv 2) (pe_c c__law_draw hr (by omega) rfl (pa_cons (pv 0) (pa_cons pe_int pa_nil))) (fun _ _ => rfl))))))
    (pss_cons (ps_if (pt_cmpR op_eq (pe_c c__law_draw hr (by omega) rfl (pa_cons (pv 0) (pa_cons pe_int pa_nil))) pe_int (nomark _)) (pss_one (ps_setLc (i := 4) rfl sc.nd rfl rfl (sw_true rfl rfl rfl rfl) (pi_range1 rfl T.n_range (pa_cons (pv 1) pa_nil)) (blkOk_by (N := ["_law_purse_here", "_law_many", "_law_letters", "_law_word_here", "_law_names_here", "_law_wide", "_law_at_here", "_law_first", "_law_step", "_law_signs", "_law_found", "_law_turn", "_law_k", "_law_sign"]) (sc := (defScope (top 78))) (own := [("_law_k", 12)]) (by decide +kernel)) (fun _ _ _ _ _ => (pg_name (i := 12) sc.nd rfl (Or.inl rfl))) (fun _ _ _ _ _ => pts_nil) (fun _ _ _ _ _ => (pe_slice sl_str (pv 3) po_none (po_some (pe_op op_add (pv 12) pe_int)))))) (pss_cons (ps_set (i := 5) sc.nd rfl (Or.inr rfl) (pe_op op_add pe_int (pe_c c__law_draw hr (by omega) rfl (pa_cons (pv 0) (pa_cons pe_int pa_nil)))))
      (pss_cons (ps_set (i := 6) sc.nd rfl (Or.inr rfl) (pe_c c__law_draw hr (by omega) rfl (pa_cons (pv 0) (pa_cons (pv 5) pa_nil))))
      (pss_cons (ps_asg (pe_tup (pa_cons (pe_c c__law_draw hr (by omega) rfl (pa_cons (pv 0) (pa_cons pe_int pa_nil))) (pa_cons (pe_ix (show IxR _ (rIxL K) from ix_list) (pe_lst (pa_cons pe_int (pa_cons pe_int (pa_cons pe_int (pa_cons pe_int (pa_cons pe_int (pa_cons pe_int (pa_cons pe_int (pa_cons pe_int pa_nil))))))))) (pe_c c__law_draw hr (by omega) rfl (pa_cons (pv 0) (pa_cons pe_int pa_nil))) (fun _ _ => rfl)) pa_nil))) (show PG _ _ (gTup K 2 _) from (pg_tup rfl (pgs_cons (pg_name (i := 7) sc.nd rfl (Or.inr rfl)) (pgs_cons (pg_name (i := 8) sc.nd rfl (Or.inr rfl)) pgs_nil)))))
      (pss_cons (ps_setLc (i := 9) rfl sc.nd rfl rfl (sw_true rfl rfl rfl rfl) (pi_range1 rfl T.n_range (pa_cons (pv 1) pa_nil)) (blkOk_by (N := ["_law_purse_here", "_law_many", "_law_letters", "_law_word_here", "_law_names_here", "_law_wide", "_law_at_here", "_law_first", "_law_step", "_law_signs", "_law_found", "_law_turn", "_law_k", "_law_sign"]) (sc := (defScope (top 78))) (own := [("_law_k", 12)]) (by decide +kernel)) (fun _ _ _ _ _ => (pg_name (i := 12) sc.nd rfl (Or.inl rfl))) (fun _ _ _ _ _ => pts_nil) (fun _ _ _ _ _ => (pe_ix ix_str (pv 2) (pe_op op_mod (pe_op op_add (pv 7) (pe_op op_mul (pv 8) (pv 12))) pe_int) (fun _ _ => rfl))))
      (pss_one (ps_setLc (i := 4) rfl sc.nd rfl rfl (sw_true rfl rfl rfl rfl) (show PI _ _ _ (iList K _) from (pi_list (pv 9))) (blkOk_by (N := ["_law_purse_here", "_law_many", "_law_letters", "_law_word_here", "_law_names_here", "_law_wide", "_law_at_here", "_law_first", "_law_step", "_law_signs", "_law_found", "_law_turn", "_law_k", "_law_sign"]) (sc := (defScope (top 78))) (own := [("_law_sign", 13)]) (by decide +kernel)) (fun _ _ _ _ _ => (pg_name (i := 13) sc.nd rfl (Or.inl rfl))) (fun _ _ _ _ _ => pts_nil) (fun _ _ _ _ _ => (pe_op op_add_str (pe_op op_add_str (pe_slice sl_str (pv 3) po_none (po_some (pv 6))) (pv 13)) (pe_slice sl_str (pv 3) (po_some (pe_op op_add (pv 6) pe_int)) (po_some (pv 5))))))))))))
    (pss_cons (ps_set (i := 10) sc.nd rfl (Or.inl rfl) (pe_lst pa_nil))
    (pss_cons (ps_while PassesOwn.never (pt_cmpR (show OpR _ _ (rNeD K) from (op_neD hr.units)) (pv 4) (pe_lst pa_nil) (nomark _))
      (pss_one (ps_expr (show PE _ _ (tBM K _ _ _ _) from (pe_bm PySem.F.plainAttrs_list PySem.F.slot_list_append PySem.F.type_list_append mt_append (pv 10) (pa_cons (show PE _ _ (tBM K _ _ _ _) from (pe_bm PySem.F.plainAttrs_list PySem.F.slot_list_pop PySem.F.type_list_pop mt_popAt (pv 4) (pa_cons (pe_c c__law_draw hr (by omega) rfl (pa_cons (pv 0) (pa_cons (pe_callB (show CallR _ _ (rLenS K) from call_len_seq) rfl T.n_len b_len (pa_cons (pv 4) pa_nil)) pa_nil))) pa_nil))) pa_nil))))))
    (pss_one (ps_ret (pv 10)))))))), ?_⟩
  obtain ⟨p, m, rfl, pu, hm1, hm8, q⟩ := h
  show (_ : TS) _ [some (.ref p), some (.int (m : Nat)), none, none, none, none, none, none, none, none, none, none, none, none] H
  refine q_asg ev_c fun H1 e1 => ?_
  show (_ : TS) _ [some (.ref p), some (.int (m : Nat)), some (.str letters), none, none, none, none, none, none, none, none, none, none, none] H1
  have pu1 := pu.ex e1
  -- the word
  refine ⟨⟨_, rfl⟩, ?_⟩
  have hel : ∀ i : Nat, i < 8 → EvM p (tOp rIxS (tVar 2) (tCall spDraw [] E0 (tCons (tVar 0) (tCons (tC (.int 26)) tNil)))) ((wipe [some (.ref p), some (.int (m : Nat)), some (.str letters), none, none, none, none, none, none, none, none, none, none, none] [11]).set 11 (some (.int (i : Nat)))) H1 (fun v => ∃ c, Lt c ∧ v = .str ⟨#[c]⟩) := fun i _ H2 m2 pu2 Q2 q2 => by
    refine ⟨_, rfl, em_drawC (m := 26) rfl (by decide) (by decide) H2 (.of_ex (Ex.refl _)) pu2 _ fun v H3 hv m3 pu3 => ?_⟩
    obtain ⟨j, ej, j0, j1⟩ := hv
    subst ej
    obtain ⟨i', rfl⟩ := Int.eq_ofNat_of_zero_le j0
    have hi : i' < 26 := by omega
    exact ⟨letters, (i' : Int), signAt i', rfl, rfl, by decide, atI_n (signAt_get hi), q2 _ H3 ⟨_, signAt_lt hi, rfl⟩ m3 pu3⟩
  refine em_lcR (p := p) (n := 8) (P1 := fun v => ∃ c, Lt c ∧ v = .str ⟨#[c]⟩) (fun _ _ _ => ea_cons ev_c ea_nil) (by decide) (fun _ => rfl) hel H1 (.of_ex (Ex.refl _)) pu1 _ fun L H2 acc hL m2 pu2 hacc hlen hall => ?_
  obtain ⟨wd, rfl, hwl⟩ := signs_of hall
  have hw8 : wd.length = 8 := by rw [List.length_map, List.length_map] at hlen; exact hlen
  refine ⟨S' [], L, wd.map fun c => S' [c], rfl, rfl, .inl (sq_of hacc), ?_, ?_⟩
  · have e : ∀ l : List Nat, ((l.map fun c => S' [c]).map (·.length)).sum = l.length := fun l => by
      induction l with
      | nil => rfl
      | cons c l ih => rw [List.map_cons, List.map_cons, List.sum_cons, ih]; show 1 + _ = _; rw [List.length_cons]; omega
    rw [e, List.length_map, hw8]
    decide
  rw [join_text]
  refine g_name ?_
  show (_ : TS) _ [some (.ref p), some (.int (m : Nat)), some (.str letters), some (.str (S' wd)), none, none, none, none, none, none, none, none, none, none] H2
  have mH2 : Mut p H H2 := .exl e1 m2
  -- what follows the names
  have rest : ∀ (a5 a6 a7 a8 a9 : Option V) (ln : Addr) (H3 : Hp) (N : List Str) (D : Ends), D = { nx := fun _ H' => Q .non H', rt := Q } → N.Nodup → (∀ n ∈ N, NameOk n) → N.length = m → H ln = none → Mut p H H3 → Pu H3 p → H3 ln = some (.lst (N.map V.str)) →
      tSeq (tAsg (tLst tNil) (gName 10)) (tSeq (tWhile (tTest (tOp (rNeD K) (tVar 4) (tLst tNil))) (tDrop (tBM K "list" rAppend (tVar 10) (tCons (tBM K "list" rPopAt (tVar 4) (tCons (tCall spDraw [] E0 (tCons (tVar 0) (tCons (tCB (rLenS K) (tCons (tVar 4) tNil)) tNil))) tNil)) tNil)))) (tRet (tVar 10))) D
        [some (.ref p), some (.int (m : Nat)), some (.str letters), some (.str (S' wd)), some (.ref ln), a5, a6, a7, a8, a9, none, none, none, none] H3 := by
    rintro a5 a6 a7 a8 a9 ln H3 N D rfl nd ok hl hn m3 pu3 h3
    refine q_newL (K := K) fun lf H4 hf e4 lF => ?_
    show (_ : TS) _ [some (.ref p), some (.int (m : Nat)), some (.str letters), some (.str (S' wd)), some (.ref ln), a5, a6, a7, a8, a9, some (.ref lf), none, none, none] H4
    have pu4 := pu3.ex e4
    have nfp : lf ≠ p := pu_ne pu3 hf
    have nnp : ln ≠ p := pu_ne pu hn
    have nnf : ln ≠ lf := fun e => by rw [← e, h3] at hf; cases hf
    have hf0 : H lf = none := m3.none nfp hf
    obtain ⟨ys0, hf4, hy0⟩ := lF
    cases hy0
    refine pop_loop (K := K) (Rel := fun _ v x => v = .str x) (enc := PyData.str) (l0 := N) (la := ln) (lb := lf) (p := p) (fun H v x e => by rw [e]; exact .str x) (fun _ _ _ _ h _ _ => h) (fun ls hs => shaped_strs fun n hn => (ok n (hs n hn)).str) rfl rfl rfl (e4 _ _ h3) (all2_self N) hf4 pu4 nnf nnp nfp (by omega) fun H5 ys l h5 r5 pm m5 pu5 => ?_
    have ey := all2_strs r5
    subst ey
    refine ⟨_, rfl, q lf H5 l (pm.nodup_iff.mpr nd) (fun n hn => ok n (pm.mem_iff.mp hn)) (by rw [pm.length_eq]; exact hl) hf0 (fun a o na ha => m5 a o na (ne_of_none ha hn) (ne_of_none ha hf0) (e4 _ _ (m3 a o na ha))) pu5 h5⟩
  have word_len : wd.length ≤ 100 := by omega
  refine q_ifM (p := p) pu2 (tm_eq (em_drawC rfl (by decide) (by decide))) (fun H3 m3 pu3 => ?_) fun H3 m3 pu3 => ?_
  · obtain ⟨b1, b2, b3⟩ := begins_ok hw8 hwl hm8
    refine s_asgL (xs := (begins wd m).map V.str) ?_ fun ln H4 hn e4 h4 => ?_
    · have := el_lcR1 (σ := [some (.ref p), some (.int (m : Nat)), some (.str letters), some (.str (S' wd)), none, none, none, none, none, none, none, none, none, none]) (H := H3) (ta := tCons (tVar 1) tNil) (j := 12) (vs := [12]) (n := (m : Nat)) (t := tYes) (te := tSl rSlS (tVar 3) tNoPart (tPart (tOp (rI0 fun i j => .int (i + j)) (tVar 12) (tC (.int 1))))) (fun _ => true) (fun k => .str (S' (wd.take (k + 1)))) (ea_cons (ev_var rfl) ea_nil) ⟨by omega, by omega⟩ (fun _ => rfl) (fun i H4 _ _ => et_yes)
        (fun i H4 e4 hi _ H5 e5 Q5 q5 => ⟨_, rfl, (ev_op (ev_var rfl) ev_c rv_I0) H5 (e5 : Ex H4 H5) _ fun H6 e6 => ⟨(i : Int) + 1, rfl, by
          have ei : (i : Int) + 1 = ((i + 1 : Nat) : Int) := by omega
          rw [ei]
          exact rv_cutTo word_len _ (q5 H6 e6)⟩⟩)
      rw [given_all] at this
      have eb : (begins wd m).map V.str = (List.range m).map fun k => V.str (S' (wd.take (k + 1))) := by rw [begins, List.map_map]; rfl
      rw [eb]
      exact this
    · have mH4 : Mut p H H4 := (mH2.trans m3).exr e4
      exact rest none none none none none ln H4 (begins wd m) _ rfl b1 b2 b3 (((mH2.trans m3).none (pu_ne pu3 hn)) hn) mH4 (pu3.ex e4) h4
  · refine q_asgM pu3 (em_addC (em_drawC (m := 8) rfl (by decide) (by decide))) fun v H4 ⟨j, ev, j0, j1⟩ m4 pu4 => ?_
    subst ev
    obtain ⟨j, rfl⟩ := Int.eq_ofNat_of_zero_le j0
    refine g_name ?_
    have ew : (1 : Int) + (j : Int) = ((j + 1 : Nat) : Int) := by omega
    rw [ew]
    show (_ : TS) _ [some (.ref p), some (.int (m : Nat)), some (.str letters), some (.str (S' wd)), none, some (.int ((j + 1 : Nat) : Int)), none, none, none, none, none, none, none, none] H4
    refine q_asgM pu4 (em_draw (m := ((j + 1 : Nat) : Int)) rfl (fun _ _ _ => ev_var rfl) (by omega) (by omega)) fun v H5 ⟨i, ev, i0, i1⟩ m5 pu5 => ?_
    subst ev
    obtain ⟨i, rfl⟩ := Int.eq_ofNat_of_zero_le i0
    refine g_name ?_
    show (_ : TS) _ [some (.ref p), some (.int (m : Nat)), some (.str letters), some (.str (S' wd)), none, some (.int ((j + 1 : Nat) : Int)), some (.int (i : Int)), none, none, none, none, none, none, none] H5
    -- first, step
    refine em_drawC (m := 26) rfl (by decide) (by decide) H5 (.of_ex (Ex.refl _)) pu5 _ fun v H6 ⟨fi, ev, f0, f1⟩ m6 pu6 => ?_
    subst ev
    refine tc_one (top_in ?_)
    refine (ek_lst (K := K) (fs := steps.map PyData.int) (σ := [some (.ref p), some (.int (m : Nat)), some (.str letters), some (.str (S' wd)), none, some (.int ((j + 1 : Nat) : Int)), some (.int (i : Int)), none, none, none, none, none, none, none]) (eda_cons (ed_int ev_c) (eda_cons (ed_int ev_c) (eda_cons (ed_int ev_c) (eda_cons (ed_int ev_c) (eda_cons (ed_int ev_c) (eda_3 (ed_int ev_c) (ed_int ev_c) (ed_int ev_c))))))) (by decide)) H6 (Ex.refl _) _ fun ls H7 hls e7 ll => ?_
    have pu7 := pu6.ex e7
    refine em_drawC (m := 8) rfl (by decide) (by decide) H7 (.of_ex (Ex.refl _)) pu7 _ fun v H8 ⟨si, ev, s0, s1⟩ m8 pu8 => ?_
    subst ev
    obtain ⟨si, rfl⟩ := Int.eq_ofNat_of_zero_le s0
    obtain ⟨xs, hxs, hxd⟩ := ll
    have exs := dpa_ints_eq hxd
    subst exs
    have hsl : si < steps.length := by show si < 8; omega
    have hls8 : H8 ls = some (.lst (steps.map V.int)) := m8 _ _ (pu_ne pu6 hls) hxs
    refine ⟨ls, steps.map V.int, (si : Int), .int steps[si], rfl, rfl, sq_of hls8, atI_n (by rw [List.getElem?_map, List.getElem?_eq_getElem hsl]; rfl), sz_of (by show 2 ≤ 100000; decide), fun T0 hT0 => ?_⟩
    refine ⟨T0, _, rfl, st_of upd_same, rfl, .int fi, _, rfl, .int steps[si], _, rfl, rfl, ?_⟩
    have hst : steps[si] ∈ steps := List.getElem_mem hsl
    have hst17 : ∀ x ∈ steps, 0 ≤ x ∧ x ≤ 17 := by decide
    have hsb := hst17 _ hst
    revert hst hsb
    generalize steps[si] = st
    intro hst hsb
    have m9 : Mut p H5 (upd H8 T0 (.tup [.int fi, .int st])) := ((m6.exr e7).trans m8).exr (Ex.new hT0)
    have pu9 : Pu (upd H8 T0 (.tup [.int fi, .int st])) p := pu8.ex (Ex.new hT0)
    revert m9 pu9
    generalize upd H8 T0 (.tup [.int fi, .int st]) = H9
    intro m9 pu9
    dsimp only
    show tSeq _ _ _ [some (.ref p), some (.int (m : Nat)), some (.str letters), some (.str (S' wd)), none, some (.int ((j + 1 : Nat) : Int)), some (.int (i : Int)), some (.int fi), some (.int st), none, none, none, none, none] H9
    let sg : Nat → Nat := fun k => signAt (placeAt fi st k)
    refine q_asgL (xs := (List.range m).map fun k => V.str (S' [sg k])) ?_ fun lg H10 hg e10 h10 => ?_
    · have := el_lcR1 (σ := [some (.ref p), some (.int (m : Nat)), some (.str letters), some (.str (S' wd)), none, some (.int ((j + 1 : Nat) : Int)), some (.int (i : Int)), some (.int fi), some (.int st), none, none, none, none, none]) (H := H9) (ta := tCons (tVar 1) tNil) (j := 12) (vs := [12]) (n := (m : Nat)) (t := tYes) (te := tOp rIxS (tVar 2) (tOp (rI (fun _ j => 0 < j) fun i j => .int (i % j)) (tOp (rI0 fun i j => .int (i + j)) (tVar 7) (tOp (rI CMul fun i j => .int (i * j)) (tVar 8) (tVar 12))) (tC (.int 26)))) (fun _ => true) (fun k => .str (S' [sg k])) (ea_cons (ev_var rfl) ea_nil) ⟨by omega, by omega⟩ (fun _ => rfl) (fun i H4 _ _ => et_yes)
        (fun k H4 e4 hk _ => ev_op (ev_var rfl) (ev_op (ev_op (ev_var rfl) (ev_op (ev_var rfl) (ev_var rfl) (rv_I (Or.inl ⟨by omega, by omega⟩))) rv_I0) ev_c (modI (by decide))) fun H5 e5 Q5 q5 => ⟨letters, _, sg k, rfl, rfl, by decide, by
          have h1 : 0 ≤ (fi + st * (k : Int)) % 26 := Int.emod_nonneg _ (by decide)
          have e : (fi + st * (k : Int)) % 26 = ((placeAt fi st k : Nat) : Int) := by unfold placeAt; omega
          rw [e]
          exact atI_n (signAt_get (place_lt _ _ _)), q5 H5 (Ex.refl _)⟩)
      rw [given_all] at this
      exact this
    · show (_ : TS) _ [some (.ref p), some (.int (m : Nat)), some (.str letters), some (.str (S' wd)), none, some (.int ((j + 1 : Nat) : Int)), some (.int (i : Int)), some (.int fi), some (.int st), some (.ref lg), none, none, none, none] H10
      have h1 : i < j + 1 := by omega
      have h2 : j + 1 ≤ 8 := by omega
      obtain ⟨b1, b2, b3⟩ := spread1_ok hw8 hwl h1 h2 (f := fi) hst hm8
      refine s_asgL (xs := (spread1 wd i (j + 1) fi st m).map V.str) ?_ fun ln H11 hn e11 h11 => ?_
      · have := el_lcL (K := K) (σ := [some (.ref p), some (.int (m : Nat)), some (.str letters), some (.str (S' wd)), none, some (.int ((j + 1 : Nat) : Int)), some (.int (i : Int)), some (.int fi), some (.int st), some (.ref lg), none, none, none, none]) (H := H10) (a := lg) (xs := (List.range m).map fun k => V.str (S' [sg k])) (tl := tVar 9) (j := 13) (vs := [13]) (t := tYes) (te := tOp (fun x y H Q => ∃ i j : Str, x = .str i ∧ y = .str j ∧ i.length + j.length ≤ sizeLine ∧ Q (.str (i ++ j)) H) (tOp (fun x y H Q => ∃ i j : Str, x = .str i ∧ y = .str j ∧ i.length + j.length ≤ sizeLine ∧ Q (.str (i ++ j)) H) (tSl rSlS (tVar 3) tNoPart (tPart (tVar 6))) (tVar 13)) (tSl rSlS (tVar 3) (tPart (tOp (rI0 fun i j => .int (i + j)) (tVar 6) (tC (.int 1)))) (tPart (tVar 5)))) (fun _ => true) (fun k => .str (S' (oneWord wd i (j + 1) (sg k)))) (ev_var rfl) (sq_of h10) (by rw [List.length_map, List.length_range]; omega) (fun _ => rfl) (fun _ _ _ _ _ => et_yes) ?_
        · rw [given_all, List.length_map, List.length_range] at this
          have eb : (spread1 wd i (j + 1) fi st m).map V.str = (List.range m).map fun k => V.str (S' (oneWord wd i (j + 1) (sg k))) := by rw [spread1, List.map_map]; rfl
          rw [eb]
          exact this
        · intro k x H12 e12 hk _
          have hkm : k < m := by
            have := (List.getElem?_eq_some_iff.mp hk).1
            rw [List.length_map, List.length_range] at this
            exact this
          have ex : x = .str (S' [sg k]) := by
            rw [List.getElem?_map, List.getElem?_range hkm] at hk
            exact (Option.some.inj hk).symm
          subst ex
          refine fun H13 e13 Q13 q13 => ⟨_, rfl, _, rfl, (i : Int), rfl, rv_cutTo word_len _ ⟨_, rfl, _, _, rfl, rfl, sz_of ?_, ⟨_, rfl, (ev_op (ev_var rfl) ev_c rv_I0) H13 (e13 : Ex H12 H13) _ fun H14 e14 => ⟨(i : Int) + 1, rfl, _, rfl, ((j + 1 : Nat) : Int), rfl, ?_⟩⟩⟩⟩
          · show (wd.take i).length + 1 ≤ 100000
            rw [List.length_take]; omega
          · have ei : (i : Int) + 1 = ((i + 1 : Nat) : Int) := by omega
            rw [ei]
            refine rv_cutMid word_len (by omega) (by omega) _ ⟨_, _, rfl, rfl, sz_of ?_, ?_⟩
            · rw [show (S' (wd.take i) ++ S' [sg k]) = S' (wd.take i ++ [sg k]) from SX.S_cat _ _]
              show (wd.take i ++ [sg k]).length + ((wd.drop (i + 1)).take (j + 1 - (i + 1))).length ≤ 100000
              rw [List.length_append, List.length_take, List.length_take, List.length_drop, List.length_singleton]; omega
            · have es : (S' (wd.take i) ++ S' [sg k] ++ S' ((wd.drop (i + 1)).take (j + 1 - (i + 1)))) = S' (oneWord wd i (j + 1) (sg k)) := by
                rw [show (S' (wd.take i) ++ S' [sg k]) = S' (wd.take i ++ [sg k]) from SX.S_cat _ _]
                exact SX.S_cat _ _
              rw [es]
              exact q13 H14 e14
      · have mm : Mut p H H9 := (((mH2.trans m3).trans m4).trans m5).trans m9
        have mH11 : Mut p H H11 := (mm.exr e10).exr e11
        exact rest _ _ _ _ _ ln H11 _ _ rfl b1 b2 b3 ((mm.exr e10).none (pu_ne (pu9.ex e10) hn) hn) mH11 ((pu9.ex e10).ex e11) h11
end
end Fell

/-! FL9 -/
set_option Elab.async false
set_option linter.all false
set_option maxRecDepth 100000
set_option maxHeartbeats 4000000
/-! Groves that are sorted; loops of drawn length. -/
namespace Fell
open PySem PySem.Spec PyProof.Rows L2 Evl
open PySem.W (dataLt keyToks alike)
theorem lt_total {a b : Grv.Tree} (h : a ≠ b) : Grv.lt a b = true ∨ Grv.lt b a = true := by
  cases h1 : Grv.lt a b with
  | true => exact .inl rfl
  | false =>
    cases h2 : Grv.lt b a with
    | true => exact .inr rfl
    | false =>
      exfalso
      have e : keyToks (Grv.trD a) = keyToks (Grv.trD b) := lex_total _ _ h1 h2
      have he : PyData.eqv (Grv.trD a) (Grv.trD b) = false := by rw [Grv.eqv_tree]; exact decide_eq_false h
      have := (PySem.W.toks_eqv _ _ (Grv.alike_tree a b)).2 he [] [.inl 0]
      rw [e, PySem.W.lex_pre, lex_irrefl] at this
      exact absurd this (by decide)
/-- rows in the order of sorted -/
def leR (a b : Grv.Tree × Int) : Bool := !dataLt (Grv.prD b) (Grv.prD a)
theorem leR_lt {p q : Grv.Tree × Int} (h : leR p q = true) (ne : p.1 ≠ q.1) : Grv.lt p.1 q.1 = true := by
  have e : dataLt (Grv.prD q) (Grv.prD p) = Grv.lt q.1 p.1 := by
    have := PySem.W.dataLt_pair (x := Grv.trD q.1) (y := .int q.2) (x' := Grv.trD p.1) (y' := .int p.2) (Grv.alike_tree _ _) rfl
    have he : PyData.eqv (Grv.trD q.1) (Grv.trD p.1) = false := by rw [Grv.eqv_tree]; exact decide_eq_false (Ne.symm ne)
    rw [he, if_neg (by decide)] at this
    exact this
  unfold leR at h
  rw [e] at h
  rcases lt_total ne with h1 | h1
  · exact h1
  · rw [h1] at h; cases h
theorem leR_total (a b : Grv.Tree × Int) : (leR a b || leR b a) = true := by
  unfold leR
  cases h1 : dataLt (Grv.prD b) (Grv.prD a) with
  | false => rfl
  | true =>
    cases h2 : dataLt (Grv.prD a) (Grv.prD b) with
    | false => rfl
    | true =>
      have := lex_trans _ _ _ h1 h2
      rw [lex_irrefl] at this
      cases this
theorem leR_trans (a b c : Grv.Tree × Int) (h1 : leR a b = true) (h2 : leR b c = true) : leR a c = true := by
  unfold leR at h1 h2 ⊢
  cases h : dataLt (Grv.prD c) (Grv.prD a) with
  | false => rfl
  | true =>
    rcases lex_negTrans _ (keyToks (Grv.prD b)) _ h with h | h
    · have e : dataLt (Grv.prD c) (Grv.prD b) = true := h
      rw [e] at h2; cases h2
    · have e : dataLt (Grv.prD b) (Grv.prD a) = true := h
      rw [e] at h1; cases h1
theorem rises_of : ∀ {l : List (Grv.Tree × Int)}, l.Pairwise (fun a b => leR a b = true) → (l.map (·.1)).Nodup → Grv.rises l
  | [], _, _ => trivial
  | [_], _, _ => trivial
  | p :: q :: r, h, nd => by
    have h' := List.pairwise_cons.mp h
    have nd' := List.nodup_cons.mp nd
    exact ⟨leR_lt (h'.1 q List.mem_cons_self) (fun e => nd'.1 (by show p.1 ∈ _; rw [e]; exact List.mem_cons_self)), rises_of h'.2 nd'.2⟩
/-- a row of a grove -/
structure RowOk (N : List Str) (p : Grv.Tree × Int) : Prop where
  k : p.1.1 ∈ N
  g : Grv.Ok (· ∈ N) p.1.2
  lo : 1 ≤ p.2
  hi : p.2 ≤ 1000000000
def rowsParts (l : List (Grv.Tree × Int)) : Nat := (l.map fun p => 1 + p.1.2.parts).sum
theorem parts_ofL : ∀ l : List (Grv.Tree × Int), (Grv.ofL l).parts = rowsParts l
  | [] => rfl
  | p :: l => by
    have h := parts_ofL l
    simp only [Grv.ofL, Grv.parts, h, rowsParts, List.map_cons, List.sum_cons]
theorem ok_ofL {N : List Str} : ∀ {l : List (Grv.Tree × Int)}, (∀ p ∈ l, RowOk N p) → Grv.rises l → Grv.Ok (· ∈ N) (Grv.ofL l)
  | [], _, _ => trivial
  | p :: l, h, r => by
    have hp := h p List.mem_cons_self
    have rt : Grv.rises l := by
      cases l with
      | nil => trivial
      | cons q l => exact r.2
    refine ⟨hp.k, hp.g, ⟨hp.lo, hp.hi⟩, ok_ofL (fun q hq => h q (List.mem_cons_of_mem _ hq)) rt, ?_, hp.g.rises⟩
    rw [Grv.toL_ofL]
    exact r
theorem rowsParts_perm {l m : List (Grv.Tree × Int)} (h : l.Perm m) : rowsParts l = rowsParts m := (h.map _).sum_nat
theorem rowsParts_filter (f : Grv.Tree × Int → Bool) : ∀ l : List (Grv.Tree × Int), rowsParts (l.filter f) ≤ rowsParts l
  | [] => Nat.le_refl _
  | p :: l => by
    have h := rowsParts_filter f l
    unfold rowsParts at h ⊢
    rw [List.filter_cons]
    split
    · simp only [List.map_cons, List.sum_cons]; omega
    · simp only [List.map_cons, List.sum_cons]; omega
theorem rowsParts_app (l m : List (Grv.Tree × Int)) : rowsParts (l ++ m) = rowsParts l + rowsParts m := by unfold rowsParts; rw [List.map_append, List.sum_append]
theorem rowsParts_len : ∀ l : List (Grv.Tree × Int), l.length ≤ rowsParts l
  | [] => Nat.le_refl _
  | p :: l => by
    have h := rowsParts_len l
    unfold rowsParts at h ⊢
    simp only [List.map_cons, List.sum_cons, List.length_cons]; omega
/-- the grove that sorted makes of rows -/
theorem sorted_grove {N : List Str} {l : List (Grv.Tree × Int)} (h : ∀ p ∈ l, RowOk N p) (nd : (l.map (·.1)).Nodup) : Grv.Ok (· ∈ N) (Grv.ofL (l.mergeSort leR)) ∧ (Grv.ofL (l.mergeSort leR)).parts = rowsParts l := by
  have pm : (l.mergeSort leR).Perm l := List.mergeSort_perm l leR
  refine ⟨ok_ofL (fun p hp => h p (pm.mem_iff.mp hp)) (rises_of (List.pairwise_mergeSort leR_trans leR_total l) ((pm.map _).nodup_iff.mpr nd)), ?_⟩
  rw [parts_ofL, rowsParts_perm pm]
/-- all but two stand -/
def Mut2 (p l : Addr) (H H' : Hp) : Prop := ∀ a o, a ≠ p → a ≠ l → H a = some o → H' a = some o
theorem Mut2.of_p {p l : Addr} {H H' : Hp} (m : Mut p H H') : Mut2 p l H H' := fun a o n _ h => m a o n h
theorem Mut2.of_l {p l : Addr} {H H' : Hp} (m : Mut l H H') : Mut2 p l H H' := fun a o _ n h => m a o n h
theorem Mut2.of_ex {p l : Addr} {H H' : Hp} (e : Ex H H') : Mut2 p l H H' := fun a o _ _ h => e a o h
theorem Mut2.trans {p l : Addr} {H H1 H2 : Hp} (a : Mut2 p l H H1) (b : Mut2 p l H1 H2) : Mut2 p l H H2 := fun x o n m h => b x o n m (a x o n m h)
theorem Mut2.tx {p l : Addr} {H H' : Hp} {xs ys : List V} (m : Mut2 p l H H') (hp : H p = some (.lst xs)) (hl : H l = some (.lst ys)) : Tx H H' := fun x ws q => by
  have n1 : ∀ {y : Addr} {us : List V}, H y = some (.lst us) → x ≠ y := fun hy e => by
    rw [e] at q
    rcases q with q | ⟨ob, q⟩ <;> (rw [hy] at q; cases q)
  rcases q with q | ⟨ob, q⟩
  · exact .inl (m x _ (n1 hp) (n1 hl) q)
  · exact .inr ⟨ob, m x _ (n1 hp) (n1 hl) q⟩
theorem Mut2.none {p l a : Addr} {H H' : Hp} (m : Mut2 p l H H') (n1 : a ≠ p) (n2 : a ≠ l) (h : H' a = none) : H a = none := by
  cases q : H a with
  | none => rfl
  | some o => rw [m a o n1 n2 q] at h; cases h
theorem s_forDraw {σ : L2.St} {H : Hp} {p : Addr} {te : TE} {tu : TS} {D : Ends} {i j : Nat} {m : Int} (hi : σ[i]? = some (some (.ref p))) (pu : Pu H p) (hm : ∀ H1, Mut p H H1 → Pu H1 p → Ev te σ H1 (.int m)) (h0 : 0 < m) (h1 : m < 1000) (Pv : L2.St → Hp → Prop) (hst : ∀ H1, Mut p H H1 → Pu H1 p → Pv σ H1)
    (hs : ∀ (k : Int) σ' H', Pv σ' H' → tu { D with nx := Pv, ct := Pv, bk := D.nx } (σ'.set j (some (.int k))) H') (hd : ∀ σ' H', Pv σ' H' → D.nx σ' H') : tFor (iRng1 (tCons (tCall spDraw [] E0 (tCons (tVar i) (tCons te tNil))) tNil)) (gName j) tu D σ H :=
  em_draw hi hm h0 (by omega) H (.of_ex (Ex.refl _)) pu _ fun v H1 hv m1 pu1 => by
    obtain ⟨n, rfl, n0, n1⟩ := hv
    exact ⟨n, rfl, by omega, by omega, for_range (lo := 0) (n := n.toNat) (fun _ σ' H' => Pv σ' H') (hst H1 m1 pu1) (fun k σ' H' _ p => hs _ σ' H' p) hd⟩
end Fell

/-! FP16 -/
set_option Elab.async false
set_option linter.all false
set_option maxRecDepth 100000
set_option maxHeartbeats 4000000
/-! Groves that the law draws. -/
namespace Fell
open PySem PySem.Spec PyProof.Rows L2 Evl
section
variable {P : Program} {w : World} {K : KK} {mg : Str → Option Value} {base : Heap} {aO aS B bI : Addr}
theorem asg_in {te : TE} {g : TG} {tz : TS} {D : Ends} {σ : L2.St} {H : Hp} (h : te σ H fun x H1 => g x σ H1 (tz D)) : tSeq (tAsg te g) tz D σ H := h
theorem asg_in1 {te : TE} {g : TG} {D : Ends} {σ : L2.St} {H : Hp} (h : te σ H fun x H1 => g x σ H1 D.nx) : tAsg te g D σ H := h
theorem tlst_in {ta : TA} {σ : L2.St} {H : Hp} {Q : VK} (h : ta σ H fun xs H1 => xs.length ≤ sizeLine ∧ ∀ p, H1 p = none → Q (.ref p) (upd H1 p (.lst xs))) : tLst ta σ H Q := h
theorem tcC_in {v : V} {tr : TA} {σ : L2.St} {H : Hp} {Q : List V → Hp → Prop} (h : tr σ H fun vs H2 => Q (v :: vs) H2) : tCons (tC v) tr σ H Q := h
def spGrove (K : KK) (n : Nat) : Sp := fun vs H Q _ => ∃ (p ln l : Addr) (u : Nat) (N : List Str) (z : Nat), vs = [.ref p, .ref ln, .int (u : Nat), .ref l] ∧ u < n ∧ n ≤ 10 ∧ Pu H p ∧ H ln = some (.lst (N.map V.str)) ∧ H l = some (.lst [.int (z : Nat)]) ∧ z ≤ 2 ∧ N.length ≤ 8 ∧ (∀ k ∈ N, okS k) ∧ p ≠ l ∧ ln ≠ p ∧ ln ≠ l ∧
  ∀ (g : Grv) (z' : Nat) v H2, z' + g.parts ≤ z → Grv.Ok (· ∈ N) g → Mut2 p l H H2 → Pu H2 p → H2 l = some (.lst [.int (z' : Nat)]) → Dp K H2 v g.d → Q v H2
structure GrP (K : KK) (p l : Addr) (N : List Str) (z : Nat) (H : Hp) (R : List (Grv.Tree × Int)) (zz : Nat) (lr : Addr) (H' : Hp) : Prop where
  mt : Mut2 p l H H'
  pu : Pu H' p
  ll : H' l = some (.lst [.int (zz : Nat)])
  lrr : LstAt K H' lr (R.map Grv.prD)
  fr : H lr = none
  rows : ∀ r ∈ R, RowOk N r
  nd : (R.map (·.1)).Nodup
  sz : zz + rowsParts R ≤ z
theorem noLs_gprs (l : List (Grv.Tree × Int)) : noLs (l.map Grv.prD) = true := noLs_map nol_gpr
theorem GrP.mv {p l lr : Addr} {N : List Str} {z zz : Nat} {H H' H2 : Hp} {R : List (Grv.Tree × Int)} (g : GrP K p l N z H R zz lr H') (m : Mut p H' H2) (pu : Pu H2 p) (nlp : l ≠ p) (nr : lr ≠ p) : GrP K p l N z H R zz lr H2 :=
  { g with mt := g.mt.trans (.of_p m), pu := pu, ll := m _ _ nlp g.ll, lrr := g.lrr.other m (g.pu.tx m) nr (noLs_gprs _) }
theorem GrP.mve {p l lr : Addr} {N : List Str} {z zz : Nat} {H H' H2 : Hp} {R : List (Grv.Tree × Int)} (g : GrP K p l N z H R zz lr H') (e : Ex H' H2) : GrP K p l N z H R zz lr H2 :=
  { g with mt := g.mt.trans (.of_ex e), pu := g.pu.ex e, ll := e _ _ g.ll, lrr := g.lrr.ex e }
theorem c__law_grove (T : Txt K mg aO aS B bI) : ∀ n, Cal P w K mg base (n + 1) "_law_grove" (spGrove K n)
  | 0 => calN (ps := ["_law_purse_here", "_law_names_here", "_law_under", "_law_left"]) T.a__law_grove (fun vs H Q E ⟨_, _, _, _, _, _, _, h, _⟩ => absurd h (Nat.not_lt_zero _)) (fun _ _ _ _ _ _ us hl => match us, hl with | [_, _, _, _], _ => rfl)
  | n + 1 => by
    have c__law_grove := c__law_grove T n
    have c__law_draw := c__law_draw (P := P) (w := w) (base := base) T
    have sc : FnScope ["_law_purse_here", "_law_names_here", "_law_under", "_law_left", "_law_rows", "_law_turn", "_law_kind", "_law_inner", "_law_some", "_law_row"] ["_law_purse_here", "_law_names_here", "_law_under", "_law_left"] (defScope (top 79)) := ⟨rfl, rfl, rfl, by decide +kernel, rfl, by decide +kernel, by decide +kernel⟩
    refine calD T.a__law_grove sc (fun vs H Q E ⟨_, _, _, _, _, _, e, _⟩ => by rw [e]; rfl) (fun _ _ _ _ _ _ us hl => match us, hl with | [_, _, _, _], _ => rfl) fun f cdv A outer s H vs Q E hr h => ?_
    refine ⟨_, (pss_cons (ps_set (i := 4) sc.nd rfl (Or.inl rfl) (pe_lst pa_nil))
    (pss_cons (ps_for PassesOwn.never rfl (pi_range1 rfl T.n_range (pa_cons (pe_c c__law_draw hr (by omega) rfl (pa_cons (pv 0) (pa_cons pe_int pa_nil))) pa_nil)) (pg_name (i := 5) sc.nd rfl (Or.inl rfl))
      (pss_one (ps_if (pt_bool (pw_and (pt_cmpR op_gt (pe_ix (show IxR _ (rIxL K) from ix_list) (pv 3) pe_int (fun _ _ => rfl)) pe_int (nomark _)) (pw_and1 (pt_cmpR (show OpR _ _ (rNeD K) from (op_neD hr.units)) (pv 1) (pe_lst pa_nil) (nomark _))))) (pss_cons (ps_asg (pe_op op_sub (pe_ix (show IxR _ (rIxL K) from ix_list) (pv 3) pe_int (fun _ _ => rfl)) pe_int) (pg_sub (pv 3) pe_int set_list))
        (pss_cons (ps_set (i := 6) sc.nd rfl (Or.inr rfl) (pe_ix (show IxR _ (rIxL K) from ix_list) (pv 1) (pe_c c__law_draw hr (by omega) rfl (pa_cons (pv 0) (pa_cons (pe_callB (show CallR _ _ (rLenS K) from call_len_seq) rfl T.n_len b_len (pa_cons (pv 1) pa_nil)) pa_nil))) (fun _ _ => rfl)))
        (pss_cons (ps_set (i := 7) sc.nd rfl (Or.inr rfl) (pe_tup pa_nil))
        (pss_cons (ps_if (pt_bool (pw_and (pt_cmpR op_gt (pv 2) pe_int (nomark _)) (pw_and1 (pt_cmpR op_eq (pe_c c__law_draw hr (by omega) rfl (pa_cons (pv 0) (pa_cons pe_int pa_nil))) pe_int (nomark _))))) (pss_one (ps_set (i := 7) sc.nd rfl (Or.inr rfl) (pe_c c__law_grove hr (by omega) rfl (pa_cons (pv 0) (pa_cons (pv 1) (pa_cons (pe_op op_sub (pv 2) pe_int) (pa_cons (pv 3) pa_nil))))))) pss_nil)
        (pss_cons (ps_set (i := 8) sc.nd rfl (Or.inl rfl) (pe_lst (pa_cons pe_int (pa_cons (pe_op op_add pe_int (pe_c c__law_draw hr (by omega) rfl (pa_cons (pv 0) (pa_cons pe_int pa_nil)))) (pa_cons (pe_op op_add pe_int (pe_c c__law_draw hr (by omega) rfl (pa_cons (pv 0) (pa_cons (pe_op op_pow pe_int pe_int) pa_nil)))) pa_nil)))))
        (pss_one (ps_set (i := 4) sc.nd rfl (Or.inl rfl) (pe_op op_cat (pe_lc (own := [("_law_row", 9)]) rfl sc.nd (show PI _ _ _ (iList K _) from (pi_list (pv 4))) (blkOk_by (N := ["_law_purse_here", "_law_names_here", "_law_under", "_law_left", "_law_rows", "_law_turn", "_law_kind", "_law_inner", "_law_some", "_law_row"]) (sc := (defScope (top 79))) (own := [("_law_row", 9)]) (by decide +kernel)) (fun _ _ _ _ _ => (pg_name (i := 9) sc.nd rfl (Or.inl rfl))) (fun _ _ _ _ _ => pts_one (pt_cmpR (show OpR _ _ (rNeD K) from (op_neD hr.units)) (pe_ix (show IxR _ (rIxT K) from ix_tup) (pv 9) pe_int (fun _ _ => rfl)) (pe_tup (pa_cons (pv 6) (pa_cons (pv 7) pa_nil))) (nomark _))) (fun _ _ _ _ _ => (pv 9))) (pe_lst (pa_cons (pe_tup (pa_cons (pe_tup (pa_cons (pv 6) (pa_cons (pv 7) pa_nil))) (pa_cons (pe_ix (show IxR _ (rIxL K) from ix_list) (pv 8) (pe_c c__law_draw hr (by omega) rfl (pa_cons (pv 0) (pa_cons pe_int pa_nil))) (fun _ _ => rfl)) pa_nil))) pa_nil)))))))))) pss_nil)))
    (pss_one (ps_ret (pe_callTy call_tuple_of rfl T.n_tuple b_tuple (pa_cons (pe_callB (cr_sortG hr.units) rfl T.n_sorted b_sorted (pa_cons (pv 4) pa_nil)) pa_nil)))))), ?_⟩
    obtain ⟨p, ln, l, u, N, z, rfl, hu, hn10, pu, hln, hl, hz, hN8, okN, npl, nnp, nnl, q⟩ := h
    show (_ : TS) _ [some (.ref p), some (.ref ln), some (.int (u : Nat)), some (.ref l), none, none, none, none, none, none] H
    have shN : SeqAt.shaped (.list (N.map PyData.str)) = true := shaped_strs okN
    refine q_newL (K := K) fun lr H1 hlr e1 lR => ?_
    show (_ : TS) _ [some (.ref p), some (.ref ln), some (.int (u : Nat)), some (.ref l), some (.ref lr), none, none, none, none, none] H1
    have gp1 : GrP K p l N z H [] z lr H1 := ⟨.of_ex e1, pu.ex e1, e1 _ _ hl, lR, hlr, (fun r h => nomatch h), List.nodup_nil, by show z + 0 ≤ z; omega⟩
    have nep : ∀ {a : Addr}, H a = none → a ≠ p := fun h => pu_ne pu h
    have nel : ∀ {a : Addr}, H a = none → a ≠ l := fun h e => by rw [e, hl] at h; cases h
    refine s_forDraw (D := { nx := _, rt := _, bk := _, ct := _ }) rfl gp1.pu (fun _ _ _ => ev_c) (by decide) (by decide) (fun σ2 H2 => ∃ R zz lr x5 x6 x7 x8, σ2 = [some (.ref p), some (.ref ln), some (.int (u : Nat)), some (.ref l), some (.ref lr), x5, x6, x7, x8, none] ∧ GrP K p l N z H R zz lr H2) (fun H2 m2 pu2 => ⟨[], z, lr, none, none, none, none, rfl, gp1.mv m2 pu2 (Ne.symm npl) (nep hlr)⟩) ?_ ?_
    · clear gp1 lR hlr e1
      rintro k0 σ2 H2 ⟨R, zz, lr, x5, x6, x7, x8, rfl, g⟩
      show (_ : TS) _ [some (.ref p), some (.ref ln), some (.int (u : Nat)), some (.ref l), some (.ref lr), some (.int k0), x6, x7, x8, none] H2
      have rl2 : R.length ≤ 2 := by have := rowsParts_len R; have := g.sz; omega
      have lnE : ∀ {H3 : Hp}, Mut2 p l H H3 → H3 ln = some (.lst (N.map V.str)) := fun m => m _ _ nnp nnl hln
      have dN : ∀ {H3 : Hp}, Mut2 p l H H3 → Dp K H3 (.ref ln) (.list (N.map PyData.str)) := fun m => .lst (sq_of (lnE m)) (dpa_strs _)
      refine s_when (b := decide (0 < (zz : Int)) && !decide (N = [])) (et_and (et_test (ev_op (ev_op (ev_var rfl) ev_c (rv_ixL (sq_of g.ll) rfl)) ev_c rv_I0)) fun _ => et_is (et_test (ev_neD (d := .list (N.map PyData.str)) (d' := .list []) (ed_var rfl (dN g.mt)) ed_nilL shN shaped_nilL)) (by rw [eqv_nilL]; cases N <;> simp)) (fun hb H3 e3 => ?_) fun hb H3 e3 => ⟨R, zz, lr, _, _, _, _, rfl, g.mve e3⟩
      obtain ⟨hb1, hb2⟩ := Bool.and_eq_true_iff.mp hb
      have hzz : 0 < zz := by have := of_decide_eq_true hb1; omega
      have hNe : N ≠ [] := by simpa using hb2
      have hNp : 0 < N.length := List.length_pos_iff.mpr hNe
      have g3 := g.mve e3
      refine q_setL (j := 0) g3.ll (ev_op (ev_op (ev_var rfl) ev_c (rv_ixL (sq_of g3.ll) rfl)) ev_c rv_I0) (ev_var rfl) ev_c (by show 0 < 1; decide) fun H4 e4 => ?_
      have g4 : GrP K p l N z H R (zz - 1) lr (upd H4 l (.lst ([V.int (zz : Nat)].set 0 (.int ((zz : Int) - 1))))) := by
        have ga := g3.mve e4
        have tl : Tx H4 (upd H4 l (.lst ([V.int (zz : Nat)].set 0 (.int ((zz : Int) - 1))))) := tx_lst ga.ll
        refine { ga with mt := ga.mt.trans (.of_l .upd), pu := ga.pu.other .upd npl, ll := ?_, lrr := ga.lrr.other .upd tl (nel g.fr) (noLs_gprs _), sz := by have := g.sz; omega }
        have e : ((zz - 1 : Nat) : Int) = (zz : Int) - 1 := by omega
        rw [upd_same, e]
        rfl
      show (_ : TS) _ [some (.ref p), some (.ref ln), some (.int (u : Nat)), some (.ref l), some (.ref lr), some (.int k0), x6, x7, x8, none] (upd H4 l (.lst ([V.int (zz : Nat)].set 0 (.int ((zz : Int) - 1)))))
      revert g4
      generalize upd H4 l (.lst ([V.int (zz : Nat)].set 0 (.int ((zz : Int) - 1)))) = H5
      intro g4
      -- the kind
      have eK : EvM p (tOp (rIxL K) (tVar 1) (tCall spDraw [] E0 (tCons (tVar 0) (tCons (tCB (rLenS K) (tCons (tVar 1) tNil)) tNil)))) [some (.ref p), some (.ref ln), some (.int (u : Nat)), some (.ref l), some (.ref lr), some (.int k0), x6, x7, x8, none] H5 (fun v => ∃ k ∈ N, v = .str k) := fun Ha ma pua Q1 q1 => by
        have ha := lnE (g4.mt.trans (.of_p ma))
        refine ⟨_, rfl, em_draw (i := 0) (m := (N.length : Int)) rfl (fun Hb mb pub => ev_is (ev_lenL (K := K) (fs := N.map PyData.str) (ed_var rfl (.lst (sq_of (mb _ _ nnp ha)) (dpa_strs _)))) (by rw [List.length_map])) (by omega) (by omega) Ha (.of_ex (Ex.refl _)) pua _ fun v Hb hv mb pub => ?_⟩
        obtain ⟨j, rfl, j0, j1⟩ := hv
        obtain ⟨j, rfl⟩ := Int.eq_ofNat_of_zero_le j0
        have hj : j < N.length := by omega
        exact ⟨ln, _, (j : Int), .str N[j], rfl, rfl, sq_of (mb _ _ nnp ha), atI_n (by rw [List.getElem?_map, List.getElem?_eq_getElem hj]; rfl), q1 _ Hb ⟨_, List.getElem_mem hj, rfl⟩ mb pub⟩
      refine q_asgM g4.pu eK fun v H6 hv m6 pu6 => ?_
      obtain ⟨kd, hkN, rfl⟩ := hv
      refine g_name ?_
      show (_ : TS) _ [some (.ref p), some (.ref ln), some (.int (u : Nat)), some (.ref l), some (.ref lr), some (.int k0), some (.str kd), x7, x8, none] H6
      have g6 := g4.mv m6 pu6 (Ne.symm npl) (nep g.fr)
      refine q_asgD (K := K) (d := Grv.d .nil) ed_nilT fun vi H7 e7 hvi => ?_
      refine g_name ?_
      show (_ : TS) _ [some (.ref p), some (.ref ln), some (.int (u : Nat)), some (.ref l), some (.ref lr), some (.int k0), some (.str kd), some vi, x8, none] H7
      have g7 := g6.mve e7
      -- what follows the inner grove
      have rest : ∀ (gi : Grv) (z1 : Nat) (vi : V) (H8 : Hp) (D : Ends), (∀ σ' H', (∃ R zz lr x5 x6 x7 x8, σ' = [some (.ref p), some (.ref ln), some (.int (u : Nat)), some (.ref l), some (.ref lr), x5, x6, x7, x8, none] ∧ GrP K p l N z H R zz lr H') → D.nx σ' H') → GrP K p l N z H R z1 lr H8 → z1 + gi.parts + 1 + rowsParts R ≤ z → Grv.Ok (· ∈ N) gi → Dp K H8 vi gi.d →
          tSeq (tAsg (tLst (tCons (tC (.int 1)) (tCons (tOp (rI0 fun i j => .int (i + j)) (tC (.int 1)) (tCall spDraw [] E0 (tCons (tVar 0) (tCons (tC (.int 4)) tNil)))) (tCons (tOp (rI0 fun i j => .int (i + j)) (tC (.int 1)) (tCall spDraw [] E0 (tCons (tVar 0) (tCons (tOp (rI CPow fun i j => .int (i ^ j.toNat)) (tC (.int 10)) (tC (.int 9))) tNil)))) tNil)))) (gName 8))
            (tAsg (tOp rCat (tLc (iList K (tVar 4)) (gName 9) (tTest (tOp (rNeD K) (tOp (rIxT K) (tVar 9) (tC (.int 0))) (tTup (tCons (tVar 6) (tCons (tVar 7) tNil))))) (tVar 9) [9]) (tLst (tCons (tTup (tCons (tTup (tCons (tVar 6) (tCons (tVar 7) tNil))) (tCons (tOp (rIxL K) (tVar 8) (tCall spDraw [] E0 (tCons (tVar 0) (tCons (tC (.int 3)) tNil)))) tNil))) tNil))) (gName 4)) D
            [some (.ref p), some (.ref ln), some (.int (u : Nat)), some (.ref l), some (.ref lr), some (.int k0), some (.str kd), some vi, x8, none] H8 := by
        intro gi z1 vi H8 D hD g8 hsz okg hvi
        -- some
        refine asg_in (tlst_in (tcC_in (tc_in ?_)))
        refine em_addC (c := 1) (em_drawC (m := 4) rfl (by decide) (by decide)) H8 (.of_ex (Ex.refl _)) g8.pu _ fun v2 H9 hv2 m9 pu9 => ?_
        obtain ⟨a2, rfl, a20, a21⟩ := hv2
        refine tc_in ?_
        refine em_addC (c := 1) (em_draw (m := 1000000000) rfl (fun _ _ _ => ev_op ev_c ev_c (rv_I (C := CPow) (g := fun i j => .int (i ^ j.toNat)) ⟨by decide, by decide, by decide⟩)) (by decide) (by decide)) H9 (.of_ex (Ex.refl _)) pu9 _ fun v3 H10 hv3 m10 pu10 => ?_
        obtain ⟨a3, rfl, a30, a31⟩ := hv3
        refine ⟨sz_of (by show 3 ≤ 100000; decide), fun ls hls => ?_⟩
        refine g_name ?_
        have m11 : Mut p H8 (upd H10 ls (.lst [.int 1, .int (1 + a2), .int (1 + a3)])) := (m9.trans m10).exr (Ex.new hls)
        have pu11 : Pu (upd H10 ls (.lst [.int 1, .int (1 + a2), .int (1 + a3)])) p := pu10.ex (Ex.new hls)
        have h11 : (upd H10 ls (.lst [.int 1, .int (1 + a2), .int (1 + a3)])) ls = some (.lst [.int 1, .int (1 + a2), .int (1 + a3)]) := upd_same
        have nls : ls ≠ p := pu_ne pu10 hls
        revert m11 pu11 h11
        generalize upd H10 ls (.lst [.int 1, .int (1 + a2), .int (1 + a3)]) = H11
        intro m11 pu11 h11
        have g11 := g8.mv m11 pu11 (Ne.symm npl) (nep g.fr)
        have hvi11 : Dp K H11 vi gi.d := dp_tx (g8.pu.tx m11) (nol_grv _) hvi
        -- rows
        let tr : Grv.Tree := (kd, gi)
        have okt : ∀ x ∈ gi.stands, okS x := fun x hx => okN x (okg.stands x hx)
        have dgi := gi.dep_le_parts
        have eC : EvF K (tLc (iList K (tVar 4)) (gName 9) (tTest (tOp (rNeD K) (tOp (rIxT K) (tVar 9) (tC (.int (0 : Nat)))) (tTup (tCons (tVar 6) (tCons (tVar 7) tNil))))) (tVar 9) [9]) [some (.ref p), some (.ref ln), some (.int (u : Nat)), some (.ref l), some (.ref lr), some (.int k0), some (.str kd), some vi, some (.ref ls), none] H11 ((R.filter fun r => !decide (r.1 = tr)).map Grv.prD) :=
          ek_lcL (enc := Grv.prD) (out := Grv.prD) (ls := R) (f := fun r => !decide (r.1 = tr)) (ed_var rfl g11.lrr.dp) (by omega) (fun _ _ _ => nol_gpr _) fun r hr' vr H12 e12 hd12 R' kk => kk [some (.ref p), some (.ref ln), some (.int (u : Nat)), some (.ref l), some (.ref lr), some (.int k0), some (.str kd), some vi, some (.ref ls), some vr] H12 (Ex.refl _) rfl
            (et_is (et_test (ev_neD (d := Grv.trD r.1) (d' := Grv.trD tr) (ed_at (i := 0) (ed_var rfl hd12) rfl) (ed_tup (eda_2 (d := .str kd) (d' := gi.d) (ed_var rfl (.str kd)) (ed_var rfl (dp_ex e12 hvi11))) sz2) (shaped_tr (okN _ (g.rows r hr').k) (fun x hx => okN x ((g.rows r hr').g.stands x hx)) (by
              have h1 := r.1.2.dep_le_parts
              have h2 : 1 + r.1.2.parts ≤ rowsParts R := by
                have := rowsParts_filter (fun q => decide (q = r)) R
                have hm : r ∈ R := hr'
                have : ∀ l : List (Grv.Tree × Int), r ∈ l → 1 + r.1.2.parts ≤ rowsParts l := fun l => by
                  induction l with
                  | nil => intro h; cases h
                  | cons a l ih =>
                    intro h
                    unfold rowsParts at ih ⊢
                    simp only [List.map_cons, List.sum_cons]
                    rcases List.mem_cons.mp h with rfl | h
                    · omega
                    · have := ih h; omega
                exact this R hm
              omega)) (shaped_tr (okN _ hkN) okt (show gi.dep ≤ 15 by omega)))) (by rw [Grv.eqv_tree])) fun _ => ed_var rfl hd12
        refine top_in ?_
        refine eC H11 (Ex.refl _) _ fun L1 H12 hL1 e12 l1 => ?_
        refine tc_in ?_
        refine ttup_in ?_
        refine tc_in ?_
        have g12 := g11.mve e12
        refine (ed_tup (K := K) (σ := [some (.ref p), some (.ref ln), some (.int (u : Nat)), some (.ref l), some (.ref lr), some (.int k0), some (.str kd), some vi, some (.ref ls), none]) (H := H12) (ta := tCons (tVar 6) (tCons (tVar 7) tNil)) (eda_2 (d := .str kd) (d' := gi.d) (ed_var rfl (.str kd)) (ed_var rfl (dp_ex e12 hvi11))) sz2) H12 (Ex.refl _) _ fun vt H13 e13 ht => ?_
        have g13 := g12.mve e13
        have h13 := e13 _ _ (e12 _ _ h11)
        refine tc_one (top_in ⟨_, rfl, ?_⟩)
        refine em_drawC (m := 3) rfl (by decide) (by decide) H13 (.of_ex (Ex.refl _)) g13.pu _ fun v H14 hv m14 pu14 => ?_
        obtain ⟨j, rfl, j0, j1⟩ := hv
        obtain ⟨j, rfl⟩ := Int.eq_ofNat_of_zero_le j0
        have g14 := g13.mv m14 pu14 (Ne.symm npl) (nep g.fr)
        have h14 := m14 _ _ nls h13
        obtain ⟨mm, hmm, hm1, hm2⟩ : ∃ mm : Int, ([V.int 1, .int (1 + a2), .int (1 + a3)])[j]? = some (.int mm) ∧ 1 ≤ mm ∧ mm ≤ 1000000000 := by
          have hj3 : j < 3 := by omega
          match j, hj3 with
          | 0, _ => exact ⟨1, rfl, by decide, by decide⟩
          | 1, _ => exact ⟨1 + a2, rfl, by omega, by omega⟩
          | 2, _ => exact ⟨1 + a3, rfl, by omega, by omega⟩
        refine ⟨ls, _, (j : Int), .int mm, rfl, rfl, sq_of h14, atI_n hmm, ?_⟩
        refine ⟨sz_of (by show 2 ≤ 100000; decide), fun tp htp => ?_⟩
        have e15 : Ex H14 (upd H14 tp (.tup [vt, .int mm])) := Ex.new htp
        have ht14 : Dp K H14 vt (Grv.trD tr) := dp_tx (g13.pu.tx m14) (nol_tr _) ht
        have dtp : Dp K (upd H14 tp (.tup [vt, .int mm])) (.ref tp) (Grv.prD (tr, mm)) := .tup (st_of upd_same) (.cons (dp_ex e15 ht14) (.cons (.int mm) .nil))
        revert e15 dtp
        generalize upd H14 tp (.tup [vt, .int mm]) = H15
        intro e15 dtp
        refine ⟨sz_of (by show 1 ≤ 100000; decide), fun L2' hL2 => ?_⟩
        have l1' : LstAt K H15 L1 ((R.filter fun r => !decide (r.1 = tr)).map Grv.prD) := ((l1.ex e13).other m14 (g13.pu.tx m14) (pu_ne g11.pu hL1) (noLs_gprs _)).ex e15
        obtain ⟨xs, hxs, hxd⟩ := l1'.ex (Ex.new (o := .lst [.ref tp]) hL2)
        have nx := dpa_len hxd
        rw [List.length_map] at nx
        have fl := List.length_filter_le (fun r : Grv.Tree × Int => !decide (r.1 = tr)) R
        refine ⟨L1, L2', xs, [.ref tp], rfl, rfl, hxs, upd_same, sz_of (by rw [List.length_singleton]; omega), fun L3 hL3 => ?_⟩
        have e17 : Ex H15 (upd (upd H15 L2' (.lst [.ref tp])) L3 (.lst (xs ++ [.ref tp]))) := (Ex.new hL2).trans (Ex.new hL3)
        have g17 := (g14.mve e15).mve e17
        refine hD _ _ ⟨R.filter (fun r => !decide (r.1 = tr)) ++ [(tr, mm)], z1, L3, _, _, _, _, rfl, { g17 with lrr := ⟨_, upd_same, ?_⟩, fr := ?_, rows := fun r hr' => ?_, nd := ?_, sz := ?_ }⟩
        · rw [List.map_append]
          exact dpa_app (dpa_ex (Ex.new hL3) hxd) (.cons (dp_ex e17 dtp) .nil)
        · have e16 : Ex H15 (upd H15 L2' (.lst [.ref tp])) := Ex.new hL2
          have g16 := (g14.mve e15).mve e16
          exact g16.mt.none (pu_ne g16.pu hL3) (fun e => by rw [e, g16.ll] at hL3; cases hL3) hL3
        · rcases List.mem_append.mp hr' with h | h
          · exact g.rows r (List.mem_filter.mp h).1
          · rw [List.mem_singleton.mp h]; exact ⟨hkN, okg, hm1, hm2⟩
        · rw [List.map_append, List.nodup_append]
          refine ⟨g.nd.sublist ((List.filter_sublist).map _), by simp, fun a ha b hb e => ?_⟩
          obtain ⟨r, hr1, rfl⟩ := List.mem_map.mp ha
          have hb' : b = tr := by simpa using hb
          have := (List.mem_filter.mp hr1).2
          rw [e, hb'] at this
          simp at this
        · rw [rowsParts_app]
          have h1 := rowsParts_filter (fun r => !decide (r.1 = tr)) R
          have h2 : rowsParts [(tr, mm)] = 1 + gi.parts := by simp [rowsParts, tr]
          omega
      have gsz := g.sz
      -- whether there is an inner grove
      refine (et_test (ev_op (ev_var (i := 2) rfl) ev_c rv_I0) : EvT (tTest (tOp (rI0 fun i j => .bl (decide (j < i))) (tVar 2) (tC (.int 1)))) _ H7 (decide ((1 : Int) < (u : Int)))) H7 (Ex.refl _) _ fun H8 e8 => ?_
      have g8 := g7.mve e8
      have hvi8 := dp_ex e8 hvi
      have no : ∀ (D : Ends) (H9 : Hp), (∀ σ' H', (∃ R zz lr x5 x6 x7 x8, σ' = [some (.ref p), some (.ref ln), some (.int (u : Nat)), some (.ref l), some (.ref lr), x5, x6, x7, x8, none] ∧ GrP K p l N z H R zz lr H') → D.nx σ' H') → Mut p H8 H9 → Pu H9 p → _ := fun D H9 hD m9 pu9 => rest .nil (zz - 1) vi H9 D hD (g8.mv m9 pu9 (Ne.symm npl) (nep g.fr)) (by show zz - 1 + 0 + 1 + _ ≤ z; omega) trivial (dp_tx (g8.pu.tx m9) (nol_grv _) hvi8)
      cases hub : decide ((1 : Int) < (u : Int)) with
      | false => exact no _ H8 (fun σ' H' h => h) (.of_ex (Ex.refl _)) g8.pu
      | true =>
        have hu1 : 1 < u := by have := of_decide_eq_true hub; omega
        refine tm_eq (em_drawC (m := 2) rfl (by decide) (by decide)) H8 (.of_ex (Ex.refl _)) g8.pu _ fun b2 H9 m9 pu9 => ?_
        cases b2 with
        | false => exact no _ H9 (fun σ' H' h => h) m9 pu9
        | true =>
          have g9 := g8.mv m9 pu9 (Ne.symm npl) (nep g.fr)
          refine ⟨_, rfl, _, rfl, (ev_op (ev_var (i := 2) rfl) ev_c rv_I0 : Ev (tOp (rI0 fun i j => .int (i - j)) (tVar 2) (tC (.int 1))) _ H9 (.int ((u : Int) - 1))) H9 (Ex.refl _) _ fun H10 e10 => ?_⟩
          have g10 := g9.mve e10
          have eu : (u : Int) - 1 = ((u - 1 : Nat) : Int) := by omega
          rw [eu]
          refine ⟨_, rfl, p, ln, l, u - 1, N, zz - 1, rfl, by omega, by omega, g10.pu, lnE g10.mt, g10.ll, by omega, hN8, okN, npl, nnp, nnl, fun gi z1 v H11 hz1 okg m11 pu11 hl11 hv11 => ?_⟩
          refine rest gi z1 v H11 _ (fun σ' H' h => h) ?_ (by omega) okg hv11
          obtain ⟨dd, sd, hpp, _⟩ := g10.pu
          have t11 : Tx H10 H11 := m11.tx hpp g10.ll
          obtain ⟨xs, a, b⟩ := g10.lrr
          exact { g10 with mt := g10.mt.trans m11, pu := pu11, ll := hl11, lrr := ⟨xs, m11 _ _ (nep g.fr) (nel g.fr) a, dpa_tx t11 (noLs_gprs _) b⟩, sz := by omega }
    · rintro σ2 H2 ⟨R, zz, lr, x5, x6, x7, x8, rfl, g⟩
      have rl2 : R.length ≤ 2 := by have := rowsParts_len R; have := g.sz; omega
      obtain ⟨o1, o2⟩ := sorted_grove g.rows g.nd
      obtain ⟨xs, a, b⟩ := g.lrr
      refine ⟨_, rfl, lr, xs, R, rfl, sq_of a, b, by omega, fun r hr' => ?_, fun ys zs L hpm hzs hys hL => ?_⟩
      · have h1 := depth_pr r
        have h2 := r.1.2.dep_le_parts
        have h3 : 1 + r.1.2.parts ≤ rowsParts R := by
          have : ∀ l : List (Grv.Tree × Int), r ∈ l → 1 + r.1.2.parts ≤ rowsParts l := fun l => by
            induction l with
            | nil => intro h; cases h
            | cons a l ih =>
              intro h
              unfold rowsParts at ih ⊢
              simp only [List.map_cons, List.sum_cons]
              rcases List.mem_cons.mp h with rfl | h
              · omega
              · have := ih h; omega
          exact this R hr'
        have := g.sz
        omega
      · refine ⟨L, ys, rfl, .inl ⟨sq_of upd_same, fun Lt hLt => ?_⟩⟩
        have eX : Ex H2 (upd (upd H2 L (.lst ys)) Lt (.tup ys)) := (Ex.new hL).trans (Ex.new hLt)
        refine q (Grv.ofL zs) zz _ _ ?_ ?_ (g.mt.trans (.of_ex eX)) (g.pu.ex eX) (eX _ _ g.ll) ?_
        · rw [hzs]
          have : (Grv.ofL (R.mergeSort leR)).parts = rowsParts R := o2
          show zz + (Grv.ofL (R.mergeSort leR)).parts ≤ z
          rw [this]
          exact g.sz
        · rw [hzs]; exact o1
        · show Dp K _ (.ref Lt) (.tuple (Grv.ofL zs).ds)
          rw [Grv.ds_toL, Grv.toL_ofL]
          exact .tup (st_of upd_same) (dpa_ex eX hys)
end
end Fell

/-! FP17 -/
set_option Elab.async false
set_option linter.all false
set_option maxRecDepth 100000
set_option maxHeartbeats 4000000
/-! Kinds that the law draws. -/
namespace Fell
open PySem PySem.Spec PyProof.Rows L2 Evl
/-- a kind's tuple, its rules' list at none of the addresses N -/
def KiV (K : KK) (H : Hp) (N : Addr → Prop) (v : V) (k : Kind) : Prop := ∃ T r xs, v = .ref T ∧ SqT K H T [.str k.name, .bl k.spr, .ref r] ∧ H r = some (.lst xs) ∧ ¬ N r ∧ DpAll K H xs (k.rules.map ruleD)
theorem KiV.dp {K : KK} {H : Hp} {N : Addr → Prop} {v : V} {k : Kind} (h : KiV K H N v k) : Dp K H v (kindD k) := by
  obtain ⟨T, r, xs, rfl, hT, hr, _, hx⟩ := h
  exact .tup hT (.cons (.str _) (.cons (.bl _) (.cons (.lst (sq_of hr) hx) .nil)))
theorem KiV.mv {K : KK} {H H' : Hp} {N N' : Addr → Prop} {v : V} {k : Kind} (h : KiV K H N v k) (m : ∀ a o, ¬ N a → H a = some o → H' a = some o) (t : Tx H H') (n : ∀ a o, H a = some o → ¬ N a → ¬ N' a) : KiV K H' N' v k := by
  obtain ⟨T, r, xs, e, hT, hr, hn, hx⟩ := h
  exact ⟨T, r, xs, e, tx_t t hT, m _ _ hn hr, n _ _ hr hn, dpa_tx t (noLs_map nol_rule) hx⟩
section
variable {P : Program} {w : World} {K : KK} {mg : Str → Option Value} {base : Heap} {aO aS B bI : Addr}
def spKs (K : KK) : Sp := fun vs H Q _ => ∃ p, vs = [.ref p] ∧ Pu H p ∧ ∀ lf H2 xs ks, KsOk ks → H lf = none → Mut p H H2 → Pu H2 p → H2 lf = some (.lst xs) → All2 (KiV K H2 (fun a => a = p ∨ a = lf)) xs ks → Q (.ref lf) H2
/-- a comprehension over a range whose items make new things -/
theorem rl_lcR {σ : L2.St} {H : Hp} {te : TE} {n : Nat} {tn : TA} {j : Nat} {vs : List Nat} (Pst : Nat → Hp → V → Prop) (h : EvA tn σ H [.int (n : Nat)]) (hn : n ≤ 10000) (hw : ∀ x, wipe ((wipe σ vs).set j (some x)) vs = wipe σ vs) (st : ∀ i H H' v, Tx H H' → Pst i H v → Pst i H' v)
    (he : ∀ i : Nat, i < n → ∀ H1, Ex H H1 → ∀ Q : VK, (∀ v H2, Ex H1 H2 → Pst i H2 v → Q v H2) → te ((wipe σ vs).set j (some (.int (i : Nat)))) H1 Q) :
    ∀ H1, Ex H H1 → ∀ Q : VK, (∀ L H2 acc, H1 L = none → Ex H1 H2 → H2 L = some (.lst acc) → acc.length = n → (∀ i v, acc[i]? = some v → Pst i H2 v) → Q (.ref L) H2) → tLc (iRng1 tn) (gName j) tYes te vs σ H1 Q := fun H1 e1 Q q =>
  h H1 e1 _ fun H2 e2 => ⟨(n : Nat), rfl, by omega, by omega, fun L hL => by
    refine lc_range (lo := 0) (n := n) (fun i H' => Ex H2 H' ∧ ∃ acc, H' L = some (.lst acc) ∧ acc.length = i ∧ ∀ j v, acc[j]? = some v → Pst j H' v) ⟨Ex.new hL, [], upd_same, rfl, fun j v hv => by simp at hv⟩ (fun i H' hi pv => ?_) fun H' pv => ?_
    · obtain ⟨ex, acc, hacc, hlen, hall⟩ := pv
      have e0 : (0 : Int) + (i : Int) = (i : Int) := Int.zero_add _
      show wipe ((wipe σ vs).set j (some (.int ((0 : Int) + (i : Int))))) vs = wipe σ vs ∧ te ((wipe σ vs).set j (some (.int ((0 : Int) + (i : Int))))) H' fun y H4 => _
      rw [e0]
      refine ⟨hw _, he i hi H' ((e1.trans e2).trans ex) _ fun v H4 e4 pv => ?_⟩
      have hacc4 := e4 _ _ hacc
      have t4 : Tx H4 (upd H4 L (.lst (acc ++ [v]))) := tx_lst hacc4
      refine ⟨acc, hacc4, sz_lt (by omega), Ex.mut (ex.trans e4) hL, acc ++ [v], upd_same, by rw [List.length_append, hlen]; rfl, fun m u hu => ?_⟩
      rcases Nat.lt_or_ge m acc.length with hm | hm
      · rw [List.getElem?_append_left hm] at hu
        exact st m _ _ _ ((tx_ex e4).trans t4) (hall m u hu)
      · rw [List.getElem?_append_right hm] at hu
        have hm0 : m - acc.length = 0 := by
          cases hk : m - acc.length with
          | zero => rfl
          | succ k => rw [hk] at hu; simp at hu
        rw [hm0] at hu
        have ev : v = u := by simpa using hu
        subst ev
        have em : m = i := by omega
        subst em
        exact st m _ _ _ t4 pv
    · obtain ⟨ex, acc, hacc, hlen, hall⟩ := pv
      exact q L H' acc (fresh_back e2 hL) (e2.trans ex) hacc hlen hall⟩
theorem ix_strs {σ : L2.St} {H : Hp} {ta tb : TE} {l : Addr} {N : List Str} {i : Nat} {n : Str} (ha : Ev ta σ H (.ref l)) (h : H l = some (.lst (N.map V.str))) (hb : Ev tb σ H (.int (i : Nat))) (hi : N[i]? = some n) : Ev (tOp (rIxL K) ta tb) σ H (.str n) := ev_op ha hb (rv_ixL (sq_of h) (atI_n (by rw [List.getElem?_map, hi]; rfl)))
theorem c__law_planted (T : Txt K mg aO aS B bI) : Cal P w K mg base 3 "_law_planted" (spKs K) := by
  have c__law_draw := c__law_draw (P := P) (w := w) (base := base) T
  have c__law_names := c__law_names (P := P) (w := w) (base := base) T
  have sc : FnScope ["_law_purse_here", "_law_names_here", "_law_bare", "_law_held", "_law_rules", "_law_k"] ["_law_purse_here"] (defScope (top 80)) := ⟨rfl, rfl, rfl, by decide +kernel, rfl, by decide +kernel, by decide +kernel⟩
  refine calD T.a__law_planted sc (fun vs H Q E ⟨_, e, _⟩ => by rw [e]; rfl) (fun _ _ _ _ _ _ us hl => match us, hl with | [_], _ => rfl) fun f cdv A outer s H vs Q E hr h => ?_
  refine ⟨_, (pss_cons (ps_set (i := 1) sc.nd rfl (Or.inr rfl) (pe_c c__law_names hr (by omega) rfl (pa_cons (pv 0) (pa_cons pe_int pa_nil))))
    (pss_cons (ps_set (i := 2) sc.nd rfl (Or.inl rfl) (pe_tup (pa_cons (pe_tup (pa_cons (pe_tup (pa_cons (pe_ix (show IxR _ (rIxL K) from ix_list) (pv 1) pe_int (fun _ _ => rfl)) (pa_cons (pe_tup pa_nil) pa_nil))) (pa_cons (pe_op op_add pe_int (pe_c c__law_draw hr (by omega) rfl (pa_cons (pv 0) (pa_cons pe_int pa_nil)))) pa_nil))) pa_nil)))
    (pss_cons (ps_set (i := 3) sc.nd rfl (Or.inl rfl) (pe_tup (pa_cons (pe_tup (pa_cons (pe_tup (pa_cons (pe_ix (show IxR _ (rIxL K) from ix_list) (pv 1) pe_int (fun _ _ => rfl)) (pa_cons (pe_tup (pa_cons (pe_tup (pa_cons (pe_tup (pa_cons (pe_ix (show IxR _ (rIxL K) from ix_list) (pv 1) pe_int (fun _ _ => rfl)) (pa_cons (pe_tup pa_nil) pa_nil))) (pa_cons (pe_op op_add pe_int (pe_c c__law_draw hr (by omega) rfl (pa_cons (pv 0) (pa_cons pe_int pa_nil)))) pa_nil))) pa_nil)) pa_nil))) (pa_cons pe_int pa_nil))) pa_nil)))
    (pss_cons (ps_set (i := 4) sc.nd rfl (Or.inr rfl) (pe_lst (pa_cons (pe_lst pa_nil) (pa_cons (pe_lst pa_nil) (pa_cons (pe_lst (pa_cons (pe_tup (pa_cons (pe_tup pa_nil) (pa_cons (pv 2) pa_nil))) pa_nil)) (pa_cons (pe_lst (pa_cons (pe_tup (pa_cons (pe_tup pa_nil) (pa_cons (pv 3) pa_nil))) pa_nil)) pa_nil))))))
    (pss_one (ps_ret (pe_lc (own := [("_law_k", 5)]) rfl sc.nd (pi_range1 rfl T.n_range (pa_cons pe_int pa_nil)) (blkOk_by (N := ["_law_purse_here", "_law_names_here", "_law_bare", "_law_held", "_law_rules", "_law_k"]) (sc := (defScope (top 80))) (own := [("_law_k", 5)]) (by decide +kernel)) (fun _ _ _ _ _ => (pg_name (i := 5) sc.nd rfl (Or.inl rfl))) (fun _ _ _ _ _ => pts_nil) (fun _ _ _ _ _ => (pe_tup (pa_cons (pe_ix (show IxR _ (rIxL K) from ix_list) (pv 1) (pv 5) (fun _ _ => rfl)) (pa_cons (pe_cmpR op_eq (pv 5) pe_int (nomark _)) (pa_cons (pe_ix (show IxR _ (rIxL K) from ix_list) (pv 4) (pv 5) (fun _ _ => rfl)) pa_nil)))))))))))), ?_⟩
  obtain ⟨p, rfl, pu, q⟩ := h
  show (_ : TS) _ [some (.ref p), none, none, none, none, none] H
  refine asg_in ⟨_, rfl, p, 4, rfl, pu, by decide, by decide, fun ln H1 N nd okn hNl hln m1 pu1 h1 => ?_⟩
  refine g_name ?_
  show (_ : TS) _ [some (.ref p), some (.ref ln), none, none, none, none] H1
  have nln : ln ≠ p := pu_ne pu hln
  obtain ⟨n0, n1, n2, n3, rfl⟩ : ∃ n0 n1 n2 n3, N = [n0, n1, n2, n3] := by
    match N, hNl with
    | [a, b, c, d], _ => exact ⟨a, b, c, d, rfl⟩
  have ixn : ∀ {σ : L2.St} {H2 : Hp} {i : Nat} {n : Str}, σ[1]? = some (some (.ref ln)) → H2 ln = some (.lst (([n0, n1, n2, n3] : List Str).map V.str)) → [n0, n1, n2, n3][i]? = some n → Ev (tOp (rIxL K) (tVar 1) (tC (.int (i : Nat)))) σ H2 (.str n) := fun hs h hi => ix_strs (ev_var hs) h ev_c hi
  -- a draw of 1 to 3
  have dr : ∀ (H2 : Hp) (σ : L2.St), σ[0]? = some (some (.ref p)) → EvM p (tOp (rI0 fun i j => .int (i + j)) (tC (.int 1)) (tCall spDraw [] E0 (tCons (tVar 0) (tCons (tC (.int 3)) tNil)))) σ H2 (fun v => ∃ m : Int, v = .int m ∧ 1 ≤ m ∧ m ≤ 1000000000) := fun H2 σ hs Ha ma pua Q1 q1 =>
    em_addC (c := 1) (em_drawC (m := 3) hs (by decide) (by decide)) Ha ma pua Q1 fun v Hb hv mb pub => by
      obtain ⟨j, rfl, j0, j1⟩ := hv
      exact q1 _ Hb ⟨_, rfl, by omega, by omega⟩ mb pub
  -- bare
  refine asg_in (ttup_in (tc_one (ttup_in (tc_in ?_))))
  refine (ed_tup (K := K) (σ := [some (.ref p), some (.ref ln), none, none, none, none]) (H := H1) (eda_2 (d := .str n0) (d' := Grv.d .nil) (ed_str (ixn (i := 0) rfl h1 rfl)) ed_nilT) sz2) H1 (Ex.refl _) _ fun v1 H2 e2 hv1 => ?_
  refine tc_one (dr H2 _ rfl H2 (.of_ex (Ex.refl _)) (pu1.ex e2) _ fun v2 H3 hv2 m3 pu3 => ?_)
  obtain ⟨c1, rfl, c10, c11⟩ := hv2
  refine ⟨sz_of (by show 2 ≤ 100000; decide), fun t1 ht1 => ⟨sz_of (by show 1 ≤ 100000; decide), fun t2 ht2 => ?_⟩⟩
  refine g_name ?_
  have hv13 : Dp K H3 v1 (Grv.trD (n0, .nil)) := dp_tx ((pu1.ex e2).tx m3) (nol_tr _) hv1
  have e45 : Ex H3 (upd (upd H3 t1 (.tup [v1, .int c1])) t2 (.tup [.ref t1])) := (Ex.new ht1).trans (Ex.new ht2)
  have db : Dp K (upd (upd H3 t1 (.tup [v1, .int c1])) t2 (.tup [.ref t1])) (.ref t2) (Grv.d (.cons n0 .nil c1 .nil)) :=
    .tup (st_of upd_same) (.cons (.tup (st_of ((Ex.new ht2) _ _ upd_same)) (.cons (dp_ex e45 hv13) (.cons (.int c1) .nil))) .nil)
  have m5 : Mut p H (upd (upd H3 t1 (.tup [v1, .int c1])) t2 (.tup [.ref t1])) := ((m1.exr e2).trans m3).exr e45
  have pu5 : Pu (upd (upd H3 t1 (.tup [v1, .int c1])) t2 (.tup [.ref t1])) p := pu3.ex e45
  have h5 : (upd (upd H3 t1 (.tup [v1, .int c1])) t2 (.tup [.ref t1])) ln = some (.lst (([n0, n1, n2, n3] : List Str).map V.str)) := e45 _ _ (m3 _ _ nln (e2 _ _ h1))
  show (_ : TS) _ [some (.ref p), some (.ref ln), some (.ref t2), none, none, none] (upd (upd H3 t1 (.tup [v1, .int c1])) t2 (.tup [.ref t1]))
  revert db m5 pu5 h5
  generalize upd (upd H3 t1 (.tup [v1, .int c1])) t2 (.tup [.ref t1]) = H5
  intro db m5 pu5 h5
  -- held
  refine asg_in (ttup_in (tc_one (ttup_in (tc_in (ttup_in (tc_in ?_))))))
  refine (ixn (i := 1) (n := n1) rfl h5 rfl) H5 (Ex.refl _) _ fun H6 e6 => ?_
  refine tc_one (ttup_in (tc_one (ttup_in (tc_in ?_))))
  refine (ed_tup (K := K) (σ := [some (.ref p), some (.ref ln), some (.ref t2), none, none, none]) (H := H6) (eda_2 (d := .str n2) (d' := Grv.d .nil) (ed_str (ixn (i := 2) rfl (e6 _ _ h5) rfl)) ed_nilT) sz2) H6 (Ex.refl _) _ fun v3 H7 e7 hv3 => ?_
  refine tc_one (dr H7 _ rfl H7 (.of_ex (Ex.refl _)) ((pu5.ex e6).ex e7) _ fun v4 H8 hv4 m8 pu8 => ?_)
  obtain ⟨c2, rfl, c20, c21⟩ := hv4
  refine ⟨sz_of (by show 2 ≤ 100000; decide), fun t3 ht3 => ⟨sz_of (by show 1 ≤ 100000; decide), fun t4 ht4 => ⟨sz_of (by show 2 ≤ 100000; decide), fun t5 ht5 => ?_⟩⟩⟩
  refine ⟨sz_of (by show 2 ≤ 100000; decide), fun t6 ht6 => ⟨sz_of (by show 1 ≤ 100000; decide), fun t7 ht7 => ?_⟩⟩
  refine g_name ?_
  have hv38 : Dp K H8 v3 (Grv.trD (n2, .nil)) := dp_tx (((pu5.ex e6).ex e7).tx m8) (nol_tr _) hv3
  have db8 : Dp K H8 (.ref t2) (Grv.d (.cons n0 .nil c1 .nil)) := dp_tx (((pu5.ex e6).ex e7).tx m8) (nol_grv _) (dp_ex (e6.trans e7) db)
  have f3 : Ex H8 (upd H8 t3 (.tup [v3, .int c2])) := Ex.new ht3
  have d3 : Dp K (upd H8 t3 (.tup [v3, .int c2])) (.ref t3) (Grv.prD ((n2, .nil), c2)) := .tup (st_of upd_same) (.cons (dp_ex f3 hv38) (.cons (.int c2) .nil))
  revert ht4 ht5 ht6 ht7 f3 d3
  generalize upd H8 t3 (.tup [v3, .int c2]) = G3
  intro ht4 ht5 ht6 ht7 f3 d3
  have f4 : Ex G3 (upd G3 t4 (.tup [.ref t3])) := Ex.new ht4
  have d4 : Dp K (upd G3 t4 (.tup [.ref t3])) (.ref t4) (Grv.d (.cons n2 .nil c2 .nil)) := .tup (st_of upd_same) (.cons (dp_ex f4 d3) .nil)
  revert ht5 ht6 ht7 f4 d4
  generalize upd G3 t4 (.tup [.ref t3]) = G4
  intro ht5 ht6 ht7 f4 d4
  have f5 : Ex G4 (upd G4 t5 (.tup [.str n1, .ref t4])) := Ex.new ht5
  have d5 : Dp K (upd G4 t5 (.tup [.str n1, .ref t4])) (.ref t5) (Grv.trD (n1, .cons n2 .nil c2 .nil)) := .tup (st_of upd_same) (.cons (.str _) (.cons (dp_ex f5 d4) .nil))
  revert ht6 ht7 f5 d5
  generalize upd G4 t5 (.tup [.str n1, .ref t4]) = G5
  intro ht6 ht7 f5 d5
  have f6 : Ex G5 (upd G5 t6 (.tup [.ref t5, .int 1])) := Ex.new ht6
  have d6 : Dp K (upd G5 t6 (.tup [.ref t5, .int 1])) (.ref t6) (Grv.prD ((n1, .cons n2 .nil c2 .nil), 1)) := .tup (st_of upd_same) (.cons (dp_ex f6 d5) (.cons (.int 1) .nil))
  revert ht7 f6 d6
  generalize upd G5 t6 (.tup [.ref t5, .int 1]) = G6
  intro ht7 f6 d6
  have f7 : Ex G6 (upd G6 t7 (.tup [.ref t6])) := Ex.new ht7
  have d7 : Dp K (upd G6 t7 (.tup [.ref t6])) (.ref t7) (Grv.d (.cons n1 (.cons n2 .nil c2 .nil) 1 .nil)) := .tup (st_of upd_same) (.cons (dp_ex f7 d6) .nil)
  show (_ : TS) _ [some (.ref p), some (.ref ln), some (.ref t2), some (.ref t7), none, none] (upd G6 t7 (.tup [.ref t6]))
  revert f7 d7
  generalize upd G6 t7 (.tup [.ref t6]) = G7
  intro f7 d7
  have e87 : Ex H8 G7 := ((((f3.trans f4).trans f5).trans f6).trans f7)
  have m9 : Mut p H G7 := (((m5.exr (e6.trans e7)).trans m8)).exr e87
  have pu9 := pu8.ex e87
  have h9 := e87 _ _ (m8 _ _ nln ((e6.trans e7) _ _ h5))
  have db9 := dp_ex e87 db8
  -- rules
  let bare : Grv := .cons n0 .nil c1 .nil
  let held : Grv := .cons n1 (.cons n2 .nil c2 .nil) 1 .nil
  refine asg_in (tlst_in (tc_in ?_))
  refine (ek_lst (K := K) (σ := [some (.ref p), some (.ref ln), some (.ref t2), some (.ref t7), none, none]) (H := G7) (fs := []) eda_nil (by decide)) G7 (Ex.refl _) _ fun r0 K0 hr0 g0 l0 => ?_
  refine tc_in ?_
  refine (ek_lst (K := K) (σ := [some (.ref p), some (.ref ln), some (.ref t2), some (.ref t7), none, none]) (H := K0) (fs := []) eda_nil (by decide)) K0 (Ex.refl _) _ fun r1 K1 hr1 g1 l1 => ?_
  refine tc_in ?_
  refine (ek_lst (K := K) (σ := [some (.ref p), some (.ref ln), some (.ref t2), some (.ref t7), none, none]) (H := K1) (fs := [ruleD (.nil, bare)]) (eda_1 (ed_tup (eda_2 (d := Grv.d .nil) (d' := bare.d) ed_nilT (ed_var (i := 2) rfl (dp_ex (g0.trans g1) db9))) sz2)) sz1) K1 (Ex.refl _) _ fun r2 K2 hr2 g2 l2 => ?_
  refine tc_one ?_
  refine (ek_lst (K := K) (σ := [some (.ref p), some (.ref ln), some (.ref t2), some (.ref t7), none, none]) (H := K2) (fs := [ruleD (.nil, held)]) (eda_1 (ed_tup (eda_2 (d := Grv.d .nil) (d' := held.d) ed_nilT (ed_var (i := 3) rfl (dp_ex ((g0.trans g1).trans g2) d7))) sz2)) sz1) K2 (Ex.refl _) _ fun r3 K3 hr3 g3 l3 => ?_
  refine ⟨sz_of (by show 4 ≤ 100000; decide), fun lr hlr => ?_⟩
  refine g_name ?_
  have g4 : Ex K3 (upd K3 lr (.lst [.ref r0, .ref r1, .ref r2, .ref r3])) := Ex.new hlr
  have hlr4 : (upd K3 lr (.lst [.ref r0, .ref r1, .ref r2, .ref r3])) lr = some (.lst [.ref r0, .ref r1, .ref r2, .ref r3]) := upd_same
  show (_ : TS) _ [some (.ref p), some (.ref ln), some (.ref t2), some (.ref t7), some (.ref lr), none] (upd K3 lr (.lst [.ref r0, .ref r1, .ref r2, .ref r3]))
  revert g4 hlr4
  generalize upd K3 lr (.lst [.ref r0, .ref r1, .ref r2, .ref r3]) = K4
  intro g4 hlr4
  have gA : Ex G7 K4 := (((g0.trans g1).trans g2).trans g3).trans g4
  let ks : List Kind := [⟨n0, false, []⟩, ⟨n1, true, []⟩, ⟨n2, false, [(.nil, bare)]⟩, ⟨n3, false, [(.nil, held)]⟩]
  let rs : List Addr := [r0, r1, r2, r3]
  have hnm : names ks = [n0, n1, n2, n3] := rfl
  have okN : ∀ (ok : Str → Prop), ok n0 → ok n1 → ok n2 → (∀ k ∈ ks, ∀ r ∈ k.rules, RuleOk ok r) := fun ok o0 o1 o2 k hk r hr' => by
    simp only [ks, List.mem_cons, List.not_mem_nil, or_false] at hk
    have ob : Grv.Ok ok bare := ⟨o0, trivial, ⟨c10, c11⟩, trivial, trivial, trivial⟩
    have oh : Grv.Ok ok held := ⟨o1, ⟨o2, trivial, ⟨c20, c21⟩, trivial, trivial, trivial⟩, ⟨by decide, by decide⟩, trivial, trivial, trivial⟩
    rcases hk with rfl | rfl | rfl | rfl
    · cases hr'
    · cases hr'
    · rw [List.mem_singleton.mp hr']; exact ⟨trivial, ob, by show 0 + (1 + 0 + 0) ≤ 2; decide⟩
    · rw [List.mem_singleton.mp hr']; exact ⟨trivial, oh, by show 0 + (1 + (1 + 0 + 0) + 0) ≤ 2; decide⟩
  have ksok : KsOk ks := ⟨⟨by simp [ks], by show 4 ≤ 8; decide, by rw [hnm]; exact nd, fun k hk => ⟨by
      simp only [ks, List.mem_cons, List.not_mem_nil, or_false] at hk
      rcases hk with rfl | rfl | rfl | rfl <;> first | (show 0 ≤ 3; decide) | (show 1 ≤ 3; decide), okN (· ∈ names ks) (by rw [hnm]; simp) (by rw [hnm]; simp) (by rw [hnm]; simp) k hk⟩⟩, fun k hk => okn k.name (by
      have : k.name ∈ names ks := List.mem_map.mpr ⟨k, hk, rfl⟩
      exact this), okN NameOk (okn n0 (by simp)) (okn n1 (by simp)) (okn n2 (by simp))⟩
  refine rl_lcR (n := 4) (fun i H' v => ∃ T n b r, v = .ref T ∧ SqT K H' T [.str n, .bl b, .ref r] ∧ (names ks)[i]? = some n ∧ (ks.map (·.spr))[i]? = some b ∧ rs[i]? = some r) (ea_cons ev_c ea_nil) (by decide) (fun _ => rfl) (fun i H0 H' v t ⟨T, n, b, r, e, h, x⟩ => ⟨T, n, b, r, e, tx_t t h, x⟩) (fun i hi Ha ea Q1 q1 => ?_) K4 (Ex.refl _) _ fun lf H10 acc hlf e10 hacc hlen hall => ?_
  · have hln : K4 ln = some (.lst (([n0, n1, n2, n3] : List Str).map V.str)) := gA _ _ h9
    obtain ⟨n, hn⟩ : ∃ n, ([n0, n1, n2, n3] : List Str)[i]? = some n := ⟨_, List.getElem?_eq_getElem (by show i < 4; omega)⟩
    obtain ⟨r, hr'⟩ : ∃ r, rs[i]? = some r := ⟨_, List.getElem?_eq_getElem (by show i < 4; omega)⟩
    have hxr : ([.ref r0, .ref r1, .ref r2, .ref r3] : List V)[i]? = some (.ref r) := by
      have : ([.ref r0, .ref r1, .ref r2, .ref r3] : List V) = rs.map V.ref := rfl
      rw [this, List.getElem?_map, hr']; rfl
    refine ttup_in (tc_in ?_)
    refine (ix_strs (K := K) (ev_var rfl) (ea _ _ hln) (ev_var rfl) hn) Ha (Ex.refl _) _ fun Hb eb => ?_
    refine tc_in ?_
    refine (ev_op (ev_var rfl) ev_c (rv_eq rfl) : Ev (tOp rEq (tVar 5) (tC (.int 1))) _ Hb (.bl (decide (V.int (i : Nat) = V.int 1)))) Hb (Ex.refl _) _ fun Hc ec => ?_
    refine tc_one ?_
    refine (ev_op (ev_var rfl) (ev_var rfl) (rv_ixL (K := K) (sq_of (((ea.trans eb).trans ec) _ _ hlr4)) (atI_n hxr)) : Ev (tOp (rIxL K) (tVar 4) (tVar 5)) _ Hc (.ref r)) Hc (Ex.refl _) _ fun Hd ed => ?_
    refine ⟨sz_of (by show 3 ≤ 100000; decide), fun Tt hTt => q1 _ _ (((eb.trans ec).trans ed).trans (Ex.new hTt)) ⟨Tt, n, _, r, rfl, st_of upd_same, hn, ?_, hr'⟩⟩
    have hi4 : i < 4 := hi
    match i, hi4 with
    | 0, _ => rfl
    | 1, _ => rfl
    | 2, _ => rfl
    | 3, _ => rfl
  · have eB : Ex G7 H10 := gA.trans e10
    have hlf0 : H lf = none := m9.none (pu_ne (pu9.ex gA) hlf) (fresh_back gA hlf)
    have nr : ∀ {r : Addr} {o : HO} {Hx : Hp}, Hx r = some o → Ex Hx K4 → r ≠ lf := fun h e x => by rw [x] at h; rw [e _ _ h] at hlf; cases hlf
    have lst : ∀ {r : Addr} {fs : List PyData} {Hx : Hp}, LstAt K Hx r fs → Ex Hx K4 → ¬ (r = p) → ∃ xs, H10 r = some (.lst xs) ∧ ¬ (r = p ∨ r = lf) ∧ DpAll K H10 xs fs := fun l e np => by
      obtain ⟨xs, a, b⟩ := l
      exact ⟨xs, (e.trans e10) _ _ a, fun h => h.elim np (nr a e), dpa_ex (e.trans e10) b⟩
    have x3 : Ex K3 K4 := g4
    have x2 : Ex K2 K4 := g3.trans x3
    have x1 : Ex K1 K4 := g2.trans x2
    have x0 : Ex K0 K4 := g1.trans x1
    obtain ⟨y0, a0, b0, c0'⟩ := lst l0 x0 (pu_ne pu9 hr0)
    obtain ⟨y1, a1, b1, c1'⟩ := lst l1 x1 (pu_ne (pu9.ex g0) hr1)
    obtain ⟨y2, a2, b2, c2'⟩ := lst l2 x2 (pu_ne ((pu9.ex g0).ex g1) hr2)
    obtain ⟨y3, a3, b3, c3'⟩ := lst l3 x3 (pu_ne (((pu9.ex g0).ex g1).ex g2) hr3)
    obtain ⟨v0, v1', v2', v3', rfl⟩ : ∃ a b c d, acc = [a, b, c, d] := by
      match acc, hlen with
      | [a, b, c, d], _ => exact ⟨a, b, c, d, rfl⟩
    have kv : ∀ (i : Nat) (v : V) (k : Kind) (r : Addr) (xs : List V), [v0, v1', v2', v3'][i]? = some v → ks[i]? = some k → rs[i]? = some r → H10 r = some (.lst xs) → ¬ (r = p ∨ r = lf) → DpAll K H10 xs (k.rules.map ruleD) → KiV K H10 (fun a => a = p ∨ a = lf) v k := fun i v k r xs hv hk hr' ha hb hc => by
      obtain ⟨T, n, b, r', e, hT, z1, z2, z3⟩ := hall i v hv
      rw [hr'] at z3
      cases z3
      rw [names, List.getElem?_map, hk] at z1
      rw [List.getElem?_map, hk] at z2
      have z1 : k.name = n := Option.some.inj z1
      have z2 : k.spr = b := Option.some.inj z2
      subst z1 z2
      exact ⟨T, r, xs, e, hT, ha, hb, hc⟩
    exact q lf H10 _ ks ksok hlf0 (m9.exr eB) (pu9.ex eB) hacc (.cons (kv 0 _ _ _ _ rfl rfl rfl a0 b0 c0') (.cons (kv 1 _ _ _ _ rfl rfl rfl a1 b1 c1') (.cons (kv 2 _ _ _ _ rfl rfl rfl a2 b2 c2') (.cons (kv 3 _ _ _ _ rfl rfl rfl a3 b3 c3') .nil))))
end
end Fell

/-! FP18 -/
set_option Elab.async false
set_option linter.all false
set_option maxRecDepth 100000
set_option maxHeartbeats 4000000
/-! Kinds that the law draws, the other way. -/
namespace Fell
open PySem PySem.Spec PyProof.Rows L2 Evl
section
variable {P : Program} {w : World} {K : KK} {mg : Str → Option Value} {base : Heap} {aO aS B bI : Addr}
theorem RuleOk.mono {ok ok' : Str → Prop} {r : Rule} (f : ∀ k, ok k → ok' k) (h : RuleOk ok r) : RuleOk ok' r := ⟨h.o.mono f, h.e.mono f, h.few⟩
theorem q_ifR {p : Addr} {σ : L2.St} {H : Hp} {t : TT} {tu tw tz : TS} {D : Ends} {R : L2.St → Hp → Prop} (pu : Pu H p) (h : EtM p t σ H) (h1 : ∀ H1, Mut p H H1 → Pu H1 p → ∀ N : L2.St → Hp → Prop, (∀ σ' H', R σ' H' → N σ' H') → tu { D with nx := N } σ H1) (h2 : ∀ H1, Mut p H H1 → Pu H1 p → ∀ N : L2.St → Hp → Prop, (∀ σ' H', R σ' H' → N σ' H') → tw { D with nx := N } σ H1) (k : ∀ σ' H', R σ' H' → tz D σ' H') : tSeq (tIfS t tu tw) tz D σ H :=
  q_ifM pu h (fun H1 m pu => h1 H1 m pu (tz D) k) (fun H1 m pu => h2 H1 m pu (tz D) k)
/-- over a drawn range, with the turn's number -/
theorem s_forDrawI {σ : L2.St} {H : Hp} {p : Addr} {te : TE} {tu : TS} {D : Ends} {i j : Nat} {m : Int} (hi : σ[i]? = some (some (.ref p))) (pu : Pu H p) (hm : ∀ H1, Mut p H H1 → Pu H1 p → Ev te σ H1 (.int m)) (h0 : 0 < m) (h1 : m < 1000) (Pv : Nat → L2.St → Hp → Prop) (hst : ∀ H1, Mut p H H1 → Pu H1 p → Pv 0 σ H1)
    (hs : ∀ (k : Nat) σ' H', (k : Int) + 1 < m → Pv k σ' H' → tu { D with nx := Pv (k + 1), ct := Pv (k + 1), bk := D.nx } (σ'.set j (some (.int (k : Nat)))) H') (hd : ∀ (n : Nat) σ' H', (n : Int) < m → Pv n σ' H' → D.nx σ' H') : tFor (iRng1 (tCons (tCall spDraw [] E0 (tCons (tVar i) (tCons te tNil))) tNil)) (gName j) tu D σ H :=
  em_draw hi hm h0 (by omega) H (.of_ex (Ex.refl _)) pu _ fun v H1 hv m1 pu1 => by
    obtain ⟨n, rfl, n0, n1⟩ := hv
    refine ⟨n, rfl, by omega, by omega, for_range (lo := 0) (n := n.toNat) Pv (hst H1 m1 pu1) (fun k σ' H' hk pv => ?_) fun σ' H' pv => hd _ σ' H' (by omega) pv⟩
    have e0 : (0 : Int) + (k : Int) = (k : Int) := Int.zero_add _
    show tu _ (σ'.set j (some (.int ((0 : Int) + (k : Int))))) H'
    rw [e0]
    exact hs k σ' H' (by omega) pv
def rInt : List V → Hp → VK → Prop := fun xs H Q => (∃ i, xs = [.int i] ∧ Q (.int i) H) ∨ ∃ k, xs = [.bl k] ∧ Q (.int (if k then 1 else 0)) H
/-- [names[k + 1:], names][int(free)] -/
theorem some_in {σ : L2.St} {H : Hp} {ln : Addr} {N : List Str} {i : Nat} {b : Bool} (hln : H ln = some (.lst (N.map V.str))) (h3 : σ[3]? = some (some (.ref ln))) (h6 : σ[6]? = some (some (.int (i : Nat)))) (h4 : σ[4]? = some (some (.bl b))) (hi : i < N.length) (Q : VK)
    (q : ∀ (ls : Addr) (M : List Str) (H2 : Hp), (∀ x ∈ M, x ∈ N) → M.length ≤ N.length → Ex H H2 → H2 ls = some (.lst (M.map V.str)) → (ls = ln ∨ H ls = none) → Q (.ref ls) H2) :
    tOp (rIxL K) (tLst (tCons (tSl (rSlL K) (tVar 3) (tPart (tOp (rI0 fun i j => .int (i + j)) (tVar 6) (tC (.int 1)))) tNoPart) (tCons (tVar 3) tNil))) (tCB rInt (tCons (tVar 4) tNil)) σ H Q := by
  have hd : Dp K H (.ref ln) (.list (N.map PyData.str)) := .lst (sq_of hln) (dpa_strs _)
  refine top_in (tlst_in (tc_in ?_))
  refine (ek_slL (K := K) (i := i + 1) (ed_var h3 hd) (ed_int (ev_is (ev_op (ev_var h6) ev_c rv_I0) (by show V.int ((i : Int) + 1) = V.int ((i + 1 : Nat) : Int); rfl))) (by rw [List.length_map]; omega)) H (Ex.refl _) _ fun s1 H1 hs1 e1 l1 => ?_
  refine tc_one ⟨_, h3, ⟨sz_of (by show 2 ≤ 100000; decide), fun l2 hl2 => ?_⟩⟩
  obtain ⟨xs, a, hx⟩ := l1
  rw [← List.map_drop] at hx
  rw [dpa_strs_eq hx] at a
  have e2 : Ex H1 (upd H1 l2 (.lst [.ref s1, .ref ln])) := Ex.new hl2
  refine ⟨_, h4, .inr ⟨b, rfl, ?_⟩⟩
  cases b with
  | false => exact ⟨l2, _, 0, .ref s1, rfl, rfl, sq_of upd_same, rfl, q s1 _ _ (fun x hx => List.mem_of_mem_drop hx) (by rw [List.length_drop]; omega) (e1.trans e2) (e2 _ _ a) (.inr hs1)⟩
  | true => exact ⟨l2, _, 1, .ref ln, rfl, rfl, sq_of upd_same, rfl, q ln _ _ (fun x hx => hx) (Nat.le_refl _) (e1.trans e2) ((e1.trans e2) _ _ hln) (.inl rfl)⟩
/-- within a kind's rules -/
structure InP (K : KK) (p lr : Addr) (N : List Str) (H4 : Hp) (rs : List Rule) (H' : Hp) : Prop where
  mt : Mut2 p lr H4 H'
  pu : Pu H' p
  ll : LstAt K H' lr (rs.map ruleD)
  ok : ∀ r ∈ rs, RuleOk (· ∈ N) r
/-- within the kinds -/
structure OuP (K : KK) (p lf : Addr) (N : List Str) (H3 : Hp) (i : Nat) (ks : List Kind) (H' : Hp) : Prop where
  mt : Mut2 p lf H3 H'
  pu : Pu H' p
  xs : ∃ xs, H' lf = some (.lst xs) ∧ All2 (KiV K H' (fun a => a = p ∨ a = lf)) xs ks
  nm : names ks = N.take i
  ok : ∀ k ∈ ks, k.rules.length ≤ 3 ∧ ∀ r ∈ k.rules, RuleOk (· ∈ N) r
theorem c__law_drawn (T : Txt K mg aO aS B bI) : Cal P w K mg base 6 "_law_drawn" (spKs K) := by
  have c__law_draw := c__law_draw (P := P) (w := w) (base := base) T
  have c__law_names := c__law_names (P := P) (w := w) (base := base) T
  have c__law_grove := c__law_grove (P := P) (w := w) (base := base) T 4
  have sc : FnScope ["_law_purse_here", "_law_many", "_law_most", "_law_names_here", "_law_free", "_law_found", "_law_k", "_law_rules", "_law_turn", "_law_left", "_law_some"] ["_law_purse_here"] (defScope (top 81)) := ⟨rfl, rfl, rfl, by decide +kernel, rfl, by decide +kernel, by decide +kernel⟩
  refine calD T.a__law_drawn sc (fun vs H Q E ⟨_, e, _⟩ => by rw [e]; rfl) (fun _ _ _ _ _ _ us hl => match us, hl with | [_], _ => rfl) fun f cdv A outer s H vs Q E hr h => ?_
  refine ⟨_, (pss_cons (ps_set (i := 1) sc.nd rfl (Or.inl rfl) (pe_op op_add pe_int (pe_c c__law_draw hr (by omega) rfl (pa_cons (pv 0) (pa_cons pe_int pa_nil)))))
    (pss_cons (ps_set (i := 2) sc.nd rfl (Or.inl rfl) pe_int)
    (pss_cons (ps_if (pt_cmpR op_eq (pe_c c__law_draw hr (by omega) rfl (pa_cons (pv 0) (pa_cons pe_int pa_nil))) pe_int (nomark _)) (pss_cons (ps_set (i := 1) sc.nd rfl (Or.inl rfl) pe_int)
      (pss_one (ps_set (i := 2) sc.nd rfl (Or.inl rfl) pe_int))) pss_nil)
    (pss_cons (ps_set (i := 3) sc.nd rfl (Or.inl rfl) (pe_c c__law_names hr (by omega) rfl (pa_cons (pv 0) (pa_cons (pv 1) pa_nil))))
    (pss_cons (ps_set (i := 4) sc.nd rfl (Or.inl rfl) (pe_cmpR op_eq (pe_c c__law_draw hr (by omega) rfl (pa_cons (pv 0) (pa_cons pe_int pa_nil))) pe_int (nomark _)))
    (pss_cons (ps_set (i := 5) sc.nd rfl (Or.inl rfl) (pe_lst pa_nil))
    (pss_cons (ps_for PassesOwn.never rfl (pi_range1 rfl T.n_range (pa_cons (pe_callB (show CallR _ _ (rLenS K) from call_len_seq) rfl T.n_len b_len (pa_cons (pv 3) pa_nil)) pa_nil)) (pg_name (i := 6) sc.nd rfl (Or.inl rfl))
      (pss_cons (ps_set (i := 7) sc.nd rfl (Or.inl rfl) (pe_lst pa_nil))
      (pss_cons (ps_for PassesOwn.never rfl (pi_range1 rfl T.n_range (pa_cons (pe_c c__law_draw hr (by omega) rfl (pa_cons (pv 0) (pa_cons (pv 2) pa_nil))) pa_nil)) (pg_name (i := 8) sc.nd rfl (Or.inl rfl))
        (pss_cons (ps_set (i := 9) sc.nd rfl (Or.inl rfl) (pe_lst (pa_cons pe_int pa_nil)))
        (pss_cons (ps_set (i := 10) sc.nd rfl (Or.inl rfl) (pe_ix (show IxR _ (rIxL K) from ix_list) (pe_lst (pa_cons (pe_slice sl_list (pv 3) (po_some (pe_op op_add (pv 6) pe_int)) po_none) (pa_cons (pv 3) pa_nil))) (pe_callTy call_int1 rfl T.n_int b_int (pa_cons (pv 4) pa_nil)) (fun _ _ => rfl)))
        (pss_one (ps_expr (show PE _ _ (tBM K _ _ _ _) from (pe_bm PySem.F.plainAttrs_list PySem.F.slot_list_append PySem.F.type_list_append mt_append (pv 7) (pa_cons (pe_tup (pa_cons (pe_c c__law_grove hr (by omega) rfl (pa_cons (pv 0) (pa_cons (pv 10) (pa_cons pe_int (pa_cons (pv 9) pa_nil))))) (pa_cons (pe_c c__law_grove hr (by omega) rfl (pa_cons (pv 0) (pa_cons (pv 10) (pa_cons pe_int (pa_cons (pv 9) pa_nil))))) pa_nil))) pa_nil))))))))
      (pss_one (ps_expr (show PE _ _ (tBM K _ _ _ _) from (pe_bm PySem.F.plainAttrs_list PySem.F.slot_list_append PySem.F.type_list_append mt_append (pv 5) (pa_cons (pe_tup (pa_cons (pe_ix (show IxR _ (rIxL K) from ix_list) (pv 3) (pv 6) (fun _ _ => rfl)) (pa_cons (pe_cmpR op_eq (pe_c c__law_draw hr (by omega) rfl (pa_cons (pv 0) (pa_cons pe_int pa_nil))) pe_int (nomark _)) (pa_cons (pv 7) pa_nil)))) pa_nil))))))))
    (pss_one (ps_ret (pv 5)))))))))), ?_⟩
  obtain ⟨p, rfl, pu, q⟩ := h
  show (_ : TS) _ [some (.ref p), none, none, none, none, none, none, none, none, none, none] H
  refine q_asgM (p := p) pu (em_addC (c := 1) (em_drawC (m := 5) rfl (by decide) (by decide))) fun v1 H1 hv1 m1 pu1 => ?_
  obtain ⟨c1, rfl, c10, c11⟩ := hv1
  refine g_name ?_
  refine asg_in ?_
  show (_ : TS) _ [some (.ref p), some (.int (1 + c1)), some (.int 4), none, none, none, none, none, none, none, none] H1
  refine q_ifR (p := p) (R := fun σ' H' => ∃ m mo : Nat, 1 ≤ m ∧ m ≤ 8 ∧ 1 ≤ mo ∧ mo ≤ 4 ∧ Mut p H1 H' ∧ Pu H' p ∧ σ' = [some (.ref p), some (.int (m : Nat)), some (.int (mo : Nat)), none, none, none, none, none, none, none, none]) pu1 (tm_eq (em_drawC (m := 8) rfl (by decide) (by decide))) (fun H2 m2 pu2 N hN => ?_) (fun H2 m2 pu2 N hN => ?_) ?_
  · exact hN [some (.ref p), some (.int 8), some (.int 2), none, none, none, none, none, none, none, none] H2 ⟨8, 2, by decide, by decide, by decide, by decide, m2, pu2, rfl⟩
  · obtain ⟨c, rfl⟩ := Int.eq_ofNat_of_zero_le c10
    refine hN [some (.ref p), some (.int (1 + (c : Nat))), some (.int 4), none, none, none, none, none, none, none, none] H2 ⟨1 + c, 4, by omega, by omega, by decide, by decide, m2, pu2, ?_⟩
    rfl
  rintro σ2 H2 ⟨m, mo, hm1, hm8, hmo1, hmo4, m2, pu2, rfl⟩
  have m02 := m1.trans m2
  refine asg_in ⟨_, rfl, _, rfl, p, m, rfl, pu2, hm1, hm8, fun ln H3 N nd okn hNl hln m3 pu3 h3 => ?_⟩
  refine g_name ?_
  show (_ : TS) _ [some (.ref p), some (.int (m : Nat)), some (.int (mo : Nat)), some (.ref ln), none, none, none, none, none, none, none] H3
  have nln : ln ≠ p := pu_ne pu2 hln
  refine q_asgM (p := p) pu3 (em_eqV (em_drawC (m := 3) rfl (by decide) (by decide))) fun v4 H4 hv4 m4 pu4 => ?_
  obtain ⟨b, rfl⟩ := hv4
  refine g_name ?_
  show (_ : TS) _ [some (.ref p), some (.int (m : Nat)), some (.int (mo : Nat)), some (.ref ln), some (.bl b), none, none, none, none, none, none] H4
  have h4 : H4 ln = some (.lst (N.map V.str)) := m4 _ _ nln h3
  refine q_newL (K := K) fun lf H5 hlf e5 lF => ?_
  show (_ : TS) _ [some (.ref p), some (.int (m : Nat)), some (.int (mo : Nat)), some (.ref ln), some (.bl b), some (.ref lf), none, none, none, none, none] H5
  have m05 : Mut p H H5 := (((m02.trans m3).trans m4)).exr e5
  have pu5 := pu4.ex e5
  have h5 := e5 _ _ h4
  have nlf : lf ≠ p := pu_ne pu4 hlf
  have nlnf : ln ≠ lf := fun e => by rw [← e, h4] at hlf; cases hlf
  have hlf0 : H lf = none := ((m02.trans m3).trans m4).none nlf hlf
  have okS' : ∀ x ∈ N, okS x := fun x hx => (okn x hx).str
  clear m1 m2 m3 m4 h3 h4 hlf hln m02 pu1 pu2 pu3 pu4
  refine s_forR1 (D := { nx := _, rt := _, bk := _, ct := _ }) (n := (N.length : Int)) (ea_cons (ev_is (ev_lenL (K := K) (fs := N.map PyData.str) (ed_var rfl (.lst (sq_of h5) (dpa_strs _)))) (by rw [List.length_map])) ea_nil) ⟨by omega, by omega⟩
    (fun i σ' H' => ∃ ks x6 x7 x8 x9 x10, σ' = [some (.ref p), some (.int (m : Nat)), some (.int (mo : Nat)), some (.ref ln), some (.bl b), some (.ref lf), x6, x7, x8, x9, x10] ∧ OuP K p lf N H5 i ks H')
    (fun H' e => ⟨[], _, _, _, _, _, rfl, .of_ex e, pu5.ex e, (by
      obtain ⟨xs, a, hx⟩ := lF
      cases hx
      exact ⟨[], e _ _ a, .nil⟩), rfl, fun k hk => nomatch hk⟩) ?_ ?_
  · rintro i σ' H6 hi ⟨ks, x6, x7, x8, x9, x10, rfl, g⟩
    have hi : i < N.length := by omega
    show (_ : TS) _ [some (.ref p), some (.int (m : Nat)), some (.int (mo : Nat)), some (.ref ln), some (.bl b), some (.ref lf), some (.int (i : Nat)), x7, x8, x9, x10] H6
    refine q_newL (K := K) fun lr H7 hlr e7 lR => ?_
    show (_ : TS) _ [some (.ref p), some (.int (m : Nat)), some (.int (mo : Nat)), some (.ref ln), some (.bl b), some (.ref lf), some (.int (i : Nat)), some (.ref lr), x8, x9, x10] H7
    have nlr : lr ≠ p := pu_ne g.pu hlr
    have h6 : H6 ln = some (.lst (N.map V.str)) := g.mt _ _ nln nlnf h5
    have nlnr : ln ≠ lr := fun e => by rw [← e, h6] at hlr; cases hlr
    obtain ⟨ks0, hf6, hks⟩ := g.xs
    have nlfr : lf ≠ lr := fun e => by rw [← e, hf6] at hlr; cases hlr
    refine s_forDrawI (D := { nx := _, rt := _, bk := _, ct := _ }) (m := (mo : Int)) rfl (g.pu.ex e7) (fun _ _ _ => ev_var rfl) (by omega) (by omega)
      (fun j σ' H' => ∃ rs x8 x9 x10, σ' = [some (.ref p), some (.int (m : Nat)), some (.int (mo : Nat)), some (.ref ln), some (.bl b), some (.ref lf), some (.int (i : Nat)), some (.ref lr), x8, x9, x10] ∧ rs.length = j ∧ InP K p lr N H7 rs H')
      (fun H' m' pu' => ⟨[], _, _, _, rfl, rfl, .of_p m', pu', lR.other m' ((g.pu.ex e7).tx m') nlr rfl, fun r hr => nomatch hr⟩) ?_ ?_
    · clear lR
      rintro j σ' H8 hj ⟨rs, x8, x9, x10, rfl, hrs, gi⟩
      show (_ : TS) _ [some (.ref p), some (.int (m : Nat)), some (.int (mo : Nat)), some (.ref ln), some (.bl b), some (.ref lf), some (.int (i : Nat)), some (.ref lr), some (.int (j : Nat)), x9, x10] H8
      refine asg_in (tlst_in (tcC_in ⟨sz_of (by show 1 ≤ 100000; decide), fun ll hll => ?_⟩))
      refine g_name ?_
      have e9 : Ex H8 (upd H8 ll (.lst [.int 2])) := Ex.new hll
      have h9 : (upd H8 ll (.lst [.int 2])) ll = some (.lst [.int ((2 : Nat) : Int)]) := upd_same
      have nll : ll ≠ p := pu_ne gi.pu hll
      obtain ⟨ys, hys, dys⟩ := gi.ll
      have nlr' : lr ≠ ll := fun e => by rw [← e, hys] at hll; cases hll
      have h8 : H8 ln = some (.lst (N.map V.str)) := gi.mt _ _ nln nlnr (e7 _ _ h6)
      have nlnl : ln ≠ ll := fun e => by rw [← e, h8] at hll; cases hll
      show (_ : TS) _ [some (.ref p), some (.int (m : Nat)), some (.int (mo : Nat)), some (.ref ln), some (.bl b), some (.ref lf), some (.int (i : Nat)), some (.ref lr), some (.int (j : Nat)), some (.ref ll), x10] (upd H8 ll (.lst [.int 2]))
      revert e9 h9
      generalize upd H8 ll (.lst [.int 2]) = H9
      intro e9 h9
      refine asg_in (some_in (K := K) (i := i) (b := b) (e9 _ _ h8) rfl rfl rfl hi _ fun ls M H10 hM hMl e10 hls hls' => ?_)
      refine g_name ?_
      show (_ : TS) _ [some (.ref p), some (.int (m : Nat)), some (.int (mo : Nat)), some (.ref ln), some (.bl b), some (.ref lf), some (.int (i : Nat)), some (.ref lr), some (.int (j : Nat)), some (.ref ll), some (.ref ls)] H10
      have e810 := e9.trans e10
      have pu10 : Pu H10 p := gi.pu.ex e810
      have nls : ls ≠ p := hls'.elim (fun e => e ▸ nln) (fun h => pu_ne (gi.pu.ex e9) h)
      have nlsl : ls ≠ ll := hls'.elim (fun e => e ▸ nlnl) (fun h e => by rw [e, h9] at h; cases h)
      have h10 := e10 _ _ h9
      have hr10 : H10 lr = some (.lst ys) := e810 _ _ hys
      have okM : ∀ k ∈ M, okS k := fun k hk => okS' k (hM k hk)
      refine ⟨_, rfl, .inl ⟨rfl, _, sq_of hr10⟩, ?_⟩
      refine tc_one (ttup_in (tc_in ?_))
      refine ⟨_, rfl, _, rfl, _, rfl, p, ls, ll, 3, M, 2, rfl, by decide, by decide, pu10, hls, h10, by decide, by omega, okM, Ne.symm nll, nls, nlsl, fun g1 z1 v1 H11 hz1 ok1 m11 pu11 hl11 hv1 => ?_⟩
      refine tc_one ⟨_, rfl, _, rfl, _, rfl, p, ls, ll, 3, M, z1, rfl, by decide, by decide, pu11, m11 _ _ nls nlsl hls, hl11, by omega, by omega, okM, Ne.symm nll, nls, nlsl, fun g2 z2 v2 H12 hz2 ok2 m12 pu12 hl12 hv2 => ?_⟩
      refine ⟨sz_of (by show 2 ≤ 100000; decide), fun tt htt => ?_⟩
      have hp11 : ∃ zs, H11 p = some (.lst zs) := let ⟨_, _, a, _⟩ := pu11; ⟨_, a⟩
      obtain ⟨zs, hp11⟩ := hp11
      have hv12 : Dp K H12 v1 g1.d := dp_tx (m12.tx hp11 hl11) (nol_grv _) hv1
      have e13 : Ex H12 (upd H12 tt (.tup [v1, v2])) := Ex.new htt
      have d13 : Dp K (upd H12 tt (.tup [v1, v2])) (.ref tt) (ruleD (g1, g2)) := .tup (st_of upd_same) (.cons (dp_ex e13 hv12) (.cons (dp_ex e13 hv2) .nil))
      revert e13 d13
      generalize upd H12 tt (.tup [v1, v2]) = H13
      intro e13 d13
      have hp10 : ∃ zs, H10 p = some (.lst zs) := let ⟨_, _, a, _⟩ := pu10; ⟨_, a⟩
      obtain ⟨zs', hp10⟩ := hp10
      have m1013 : Mut2 p ll H10 H13 := (m11.trans m12).trans (.of_ex e13)
      have t813 : Tx H8 H13 := fun a xs' h' => m1013.tx hp10 h10 a xs' (tx_ex e810 a xs' h')
      have hr13 : H13 lr = some (.lst ys) := m1013 _ _ nlr nlr' hr10
      have dys13 : DpAll K H13 ys (rs.map ruleD) := dpa_tx t813 (noLs_map nol_rule) dys
      have nys := dpa_len dys
      rw [List.length_map] at nys
      refine ⟨lr, ys, .ref tt, rfl, rfl, hr13, sz_lt (by omega), ?_⟩
      have t14 : Tx H13 (upd H13 lr (.lst (ys ++ [.ref tt]))) := tx_lst hr13
      refine ⟨rs ++ [(g1, g2)], _, _, _, rfl, by rw [List.length_append, hrs]; rfl, ?_, (pu12.ex e13).other .upd (Ne.symm nlr), ⟨_, upd_same, by rw [List.map_append]; exact dpa_app (dpa_tx t14 (noLs_map nol_rule) dys13) (.cons (dp_tx t14 (nol_rule _) d13) .nil)⟩, fun r hr' => ?_⟩
      · refine fun a o n1 n2 ha => ?_
        rw [upd_ne n2]
        have h8a := gi.mt a o n1 n2 ha
        exact m1013 a o n1 (fun e => by rw [e, hll] at h8a; cases h8a) (e810 _ _ h8a)
      · rcases List.mem_append.mp hr' with h | h
        · exact gi.ok r h
        · rw [List.mem_singleton.mp h]
          exact ⟨ok1.mono hM, ok2.mono hM, by show g1.parts + g2.parts ≤ 2; omega⟩
    · rintro j σ' H8 hj ⟨rs, x8, x9, x10, rfl, hrs, gi⟩
      have m68 : ∀ a o, a ≠ p → H6 a = some o → H8 a = some o := fun a o n ha => gi.mt a o n (fun e => by rw [e, hlr] at ha; cases ha) (e7 _ _ ha)
      obtain ⟨dd, sd, hp7, _⟩ := g.pu.ex e7
      have l7 : ∃ zs, H7 lr = some (.lst zs) := let ⟨zs, a, _⟩ := lR; ⟨zs, a⟩
      obtain ⟨zs7, hl7⟩ := l7
      have t68 : Tx H6 H8 := fun a xs' h' => gi.mt.tx hp7 hl7 a xs' (tx_ex e7 a xs' h')
      have hf8 : H8 lf = some (.lst ks0) := m68 _ _ nlf hf6
      have h8 : H8 ln = some (.lst (N.map V.str)) := m68 _ _ nln h6
      obtain ⟨ys, hys, dys⟩ := gi.ll
      refine ⟨_, rfl, .inl ⟨rfl, _, sq_of hf8⟩, ?_⟩
      refine tc_one (ttup_in (tc_in ?_))
      refine (ix_strs (K := K) (i := i) (n := N[i]) (ev_var rfl) h8 (ev_var rfl) (List.getElem?_eq_getElem hi)) H8 (Ex.refl _) _ fun H9 e9 => ?_
      refine tc_in ?_
      refine em_eqV (em_drawC (m := 2) rfl (by decide) (by decide)) H9 (.of_ex (Ex.refl _)) (gi.pu.ex e9) _ fun v H10 hv m10 pu10 => ?_
      obtain ⟨b2, rfl⟩ := hv
      refine tc_one ⟨_, rfl, ⟨sz_of (by show 3 ≤ 100000; decide), fun tt htt => ?_⟩⟩
      have e11 : Ex H10 (upd H10 tt (.tup [.str N[i], .bl b2, .ref lr])) := Ex.new htt
      have d11 : SqT K (upd H10 tt (.tup [.str N[i], .bl b2, .ref lr])) tt [.str N[i], .bl b2, .ref lr] := st_of upd_same
      revert e11 d11
      generalize upd H10 tt (.tup [.str N[i], .bl b2, .ref lr]) = H11
      intro e11 d11
      have m811 : Mut p H8 H11 := (Mut.exl e9 m10).exr e11
      have t811 : Tx H8 H11 := gi.pu.tx m811
      have hf11 : H11 lf = some (.lst ks0) := m811 _ _ nlf hf8
      have nks := hks.len
      have kl : ks.length ≤ 8 := by
        have := congrArg List.length g.nm
        rw [names, List.length_map, List.length_take] at this
        omega
      refine ⟨lf, ks0, .ref tt, rfl, rfl, hf11, sz_lt (by omega), ?_⟩
      have t12 : Tx H11 (upd H11 lf (.lst (ks0 ++ [.ref tt]))) := tx_lst hf11
      have tAll : Tx H6 (upd H11 lf (.lst (ks0 ++ [.ref tt]))) := fun a xs' h' => t12 a xs' (t811 a xs' (t68 a xs' h'))
      have mAll : ∀ a o, ¬ (a = p ∨ a = lf) → H6 a = some o → (upd H11 lf (.lst (ks0 ++ [.ref tt]))) a = some o := fun a o n ha => by
        rw [upd_ne (fun e => n (.inr e))]
        exact m811 _ _ (fun e => n (.inl e)) (m68 _ _ (fun e => n (.inl e)) ha)
      refine ⟨ks ++ [⟨N[i], b2, rs⟩], _, _, _, _, _, rfl, fun a o n1 n2 ha => mAll a o (fun h => h.elim n1 n2) (g.mt a o n1 n2 ha), (pu10.ex e11).other .upd (Ne.symm nlf), ⟨_, upd_same, ?_⟩, ?_, fun k hk => ?_⟩
      · refine (hks.imp fun u z _ h => h.mv mAll tAll fun _ _ _ n => n).app (.cons ⟨tt, lr, ys, rfl, tx_t t12 d11, ?_, ?_, ?_⟩ .nil)
        · rw [upd_ne (Ne.symm nlfr)]; exact m811 _ _ nlr hys
        · exact fun h => h.elim nlr (Ne.symm nlfr)
        · exact dpa_tx t12 (noLs_map nol_rule) (dpa_tx t811 (noLs_map nol_rule) dys)
      · rw [names, List.map_append, ← names, g.nm, List.take_add_one, List.getElem?_eq_getElem hi]; rfl
      · rcases List.mem_append.mp hk with h | h
        · exact g.ok k h
        · rw [List.mem_singleton.mp h]
          exact ⟨by show rs.length ≤ 3; omega, gi.ok⟩
  · rintro σ' H6 ⟨ks, x6, x7, x8, x9, x10, rfl, g⟩
    obtain ⟨xs, hxs, hks⟩ := g.xs
    have hnm : names ks = N := by rw [g.nm]; exact List.take_of_length_le (by omega)
    have kl : ks.length = N.length := by rw [← hnm, names, List.length_map]
    have ksok : KsOk ks := ⟨⟨fun e => by rw [e] at kl; simp at kl; omega, by omega, by rw [hnm]; exact nd, fun k hk => ⟨(g.ok k hk).1, fun r hr' => by rw [hnm]; exact (g.ok k hk).2 r hr'⟩⟩, fun k hk => okn k.name (by
      have : k.name ∈ names ks := List.mem_map.mpr ⟨k, hk, rfl⟩
      rw [hnm] at this
      exact this), fun k hk r hr' => ((g.ok k hk).2 r hr').mono okn⟩
    refine ⟨_, rfl, q lf H6 _ ks ksok hlf0 (fun a o n ha => ?_) g.pu hxs hks⟩
    exact g.mt a o n (fun e => by rw [e, hlf0] at ha; cases ha) (m05 a o n ha)
end
end Fell

/-! FP19 -/
set_option Elab.async false
set_option linter.all false
set_option maxRecDepth 100000
set_option maxHeartbeats 4000000
/-! Kinds in the order that the law draws. -/
namespace Fell
open PySem PySem.Spec PyProof.Rows L2 Evl
theorem lay_all : ∀ {l : List PyData}, (∀ d ∈ l, d.canLay0 = true) → PyData.canLayAll0 l = true
  | [], _ => by simp [PyData.canLayAll0]
  | d :: l, h => by
    have h0 := h d List.mem_cons_self
    have h1 := lay_all (l := l) fun x hx => h x (List.mem_cons_of_mem _ hx)
    simp [PyData.canLayAll0, h0, h1]
theorem depth_all {n : Nat} : ∀ {l : List PyData}, (∀ d ∈ l, d.depth ≤ n) → PyData.depthAll l ≤ n
  | [], _ => by simp [PyData.depthAll]
  | d :: l, h => by
    have h0 := h d List.mem_cons_self
    have h1 := depth_all (l := l) fun x hx => h x (List.mem_cons_of_mem _ hx)
    simp only [PyData.depthAll]
    omega
theorem lay_rule {r : Rule} (h : RuleOk NameOk r) : (ruleD r).canLay0 = true := by
  have a1 := grv_lay fun x hx => NameOk.str (h.o.stands x hx)
  have a2 := grv_lay fun x hx => NameOk.str (h.e.stands x hx)
  simp [ruleD, Grv.d, PyData.canLay0, PyData.canLayAll0, a1, a2]
theorem depth_rule {r : Rule} (h : RuleOk NameOk r) : (ruleD r).depth ≤ 8 := by
  have h1 := depth_grv r.1
  have h2 := depth_grv r.2
  have h3 := r.1.dep_le_parts
  have h4 := r.2.dep_le_parts
  have h5 := h.few
  simp only [ruleD, PyData.depth, PyData.depthAll]
  omega
theorem lay_kind {k : Kind} (hn : NameOk k.name) (h : ∀ r ∈ k.rules, RuleOk NameOk r) : (kindD k).canLay0 = true := by
  have a0 : PyData.strOk k.name = true := hn.str
  have a1 : PyData.canLayAll0 (k.rules.map ruleD) = true := lay_all fun d hd => by
    obtain ⟨r, hr, rfl⟩ := List.mem_map.mp hd
    exact lay_rule (h r hr)
  simp [kindD, PyData.canLay0, PyData.canLayAll0, a0, a1]
theorem depth_kind {k : Kind} (h : ∀ r ∈ k.rules, RuleOk NameOk r) : (kindD k).depth ≤ 10 := by
  have a1 : PyData.depthAll (k.rules.map ruleD) ≤ 8 := depth_all fun d hd => by
    obtain ⟨r, hr, rfl⟩ := List.mem_map.mp hd
    exact depth_rule (h r hr)
  simp only [kindD, PyData.depth, PyData.depthAll]
  omega
theorem shaped_kinds {l : List Kind} (hn : ∀ k ∈ l, NameOk k.name) (h : ∀ k ∈ l, ∀ r ∈ k.rules, RuleOk NameOk r) : SeqAt.shaped (.list (l.map kindD)) = true := by
  have a1 : PyData.canLayAll0 (l.map kindD) = true := lay_all fun d hd => by
    obtain ⟨k, hk, rfl⟩ := List.mem_map.mp hd
    exact lay_kind (hn k hk) (h k hk)
  have a2 : PyData.depthAll (l.map kindD) ≤ 10 := depth_all fun d hd => by
    obtain ⟨k, hk, rfl⟩ := List.mem_map.mp hd
    exact depth_kind (h k hk)
  have e2 : (PyData.list (l.map kindD)).canLay0 = true := by rw [PyData.canLay0]; exact a1
  have e : (PyData.list (l.map kindD)).depth = PyData.depthAll (l.map kindD) + 1 := by rw [PyData.depth]
  unfold SeqAt.shaped
  rw [e2, e]
  exact decide_eq_true (by omega)
theorem KsOk.perm {l m : List Kind} (h : KsOk l) (p : m.Perm l) : KsOk m := by
  have pn : (names m).Perm (names l) := p.map _
  refine ⟨⟨fun e => ?_, by rw [p.length_eq]; exact h.ok.few, pn.nodup_iff.mpr h.ok.nd, fun k hk => ?_⟩, fun k hk => h.nm k (p.mem_iff.mp hk), fun k hk => h.rl k (p.mem_iff.mp hk)⟩
  · have := p.length_eq
    rw [e] at this
    exact h.ok.pos (List.length_eq_zero_iff.mp this.symm)
  · have := h.ok.rules k (p.mem_iff.mp hk)
    exact ⟨this.1, fun r hr => (this.2 r hr).mono fun x hx => pn.mem_iff.mpr hx⟩
section
variable {P : Program} {w : World} {K : KK} {mg : Str → Option Value} {base : Heap} {aO aS B bI : Addr}
theorem c__law_kinds (T : Txt K mg aO aS B bI) : Cal P w K mg base 7 "_law_kinds" (spKs K) := by
  have c__law_draw := c__law_draw (P := P) (w := w) (base := base) T
  have c__law_planted := c__law_planted (P := P) (w := w) (base := base) T
  have c__law_drawn := c__law_drawn (P := P) (w := w) (base := base) T
  have sc : FnScope ["_law_purse_here", "_law_found", "_law_put"] ["_law_purse_here"] (defScope (top 82)) := ⟨rfl, rfl, rfl, by decide +kernel, rfl, by decide +kernel, by decide +kernel⟩
  refine calD T.a__law_kinds sc (fun vs H Q E ⟨_, e, _⟩ => by rw [e]; rfl) (fun _ _ _ _ _ _ us hl => match us, hl with | [_], _ => rfl) fun f cdv A outer s H vs Q E hr h => ?_
  refine ⟨_, (pss_cons (ps_if (pt_cmpR op_eq (pe_c c__law_draw hr (by omega) rfl (pa_cons (pv 0) (pa_cons pe_int pa_nil))) pe_int (nomark _)) (pss_one (ps_set (i := 1) sc.nd rfl (Or.inl rfl) (pe_c c__law_planted hr (by omega) rfl (pa_cons (pv 0) pa_nil)))) (pss_one (ps_set (i := 1) sc.nd rfl (Or.inl rfl) (pe_c c__law_drawn hr (by omega) rfl (pa_cons (pv 0) pa_nil)))))
    (pss_cons (ps_set (i := 2) sc.nd rfl (Or.inl rfl) (pe_lst pa_nil))
    (pss_cons (ps_while PassesOwn.never (pt_cmpR (show OpR _ _ (rNeD K) from (op_neD hr.units)) (pv 1) (pe_lst pa_nil) (nomark _))
      (pss_one (ps_expr (show PE _ _ (tBM K _ _ _ _) from (pe_bm PySem.F.plainAttrs_list PySem.F.slot_list_append PySem.F.type_list_append mt_append (pv 2) (pa_cons (show PE _ _ (tBM K _ _ _ _) from (pe_bm PySem.F.plainAttrs_list PySem.F.slot_list_pop PySem.F.type_list_pop mt_popAt (pv 1) (pa_cons (pe_c c__law_draw hr (by omega) rfl (pa_cons (pv 0) (pa_cons (pe_callB (show CallR _ _ (rLenS K) from call_len_seq) rfl T.n_len b_len (pa_cons (pv 1) pa_nil)) pa_nil))) pa_nil))) pa_nil))))))
    (pss_one (ps_ret (pv 2)))))), ?_⟩
  obtain ⟨p, rfl, pu, q⟩ := h
  show (_ : TS) _ [some (.ref p), none, none] H
  refine q_ifR (p := p) (R := fun σ' H' => ∃ la xs ks, KsOk ks ∧ H la = none ∧ Mut p H H' ∧ Pu H' p ∧ H' la = some (.lst xs) ∧ All2 (KiV K H' (fun a => a = p ∨ a = la)) xs ks ∧ σ' = [some (.ref p), some (.ref la), none]) pu (tm_eq (em_drawC (m := 6) rfl (by decide) (by decide))) (fun H1 m1 pu1 N hN => ?_) (fun H1 m1 pu1 N hN => ?_) ?_
  · exact asg_in1 ⟨_, rfl, p, rfl, pu1, fun la H2 xs ks hk hla m2 pu2 hx hks => g_name (hN _ _ ⟨la, xs, ks, hk, m1.none (pu_ne pu1 hla) hla, m1.trans m2, pu2, hx, hks, rfl⟩)⟩
  · exact asg_in1 ⟨_, rfl, p, rfl, pu1, fun la H2 xs ks hk hla m2 pu2 hx hks => g_name (hN _ _ ⟨la, xs, ks, hk, m1.none (pu_ne pu1 hla) hla, m1.trans m2, pu2, hx, hks, rfl⟩)⟩
  rintro σ1 H1 ⟨la, xs, ks, ksok, hla, m1, pu1, hxs, hks, rfl⟩
  refine q_newL (K := K) fun lb H2 hlb e2 lB => ?_
  show (_ : TS) _ [some (.ref p), some (.ref la), some (.ref lb)] H2
  obtain ⟨zs, hb, hz⟩ := lB
  cases hz
  have nap : la ≠ p := pu_ne pu hla
  have nbp : lb ≠ p := pu_ne pu1 hlb
  have nab : la ≠ lb := fun e => by rw [← e, hxs] at hlb; cases hlb
  refine pop_loop (K := K) (p := p) (la := la) (lb := lb) (enc := kindD) (l0 := ks) (a := 1) (b := 2) (c := 0) (xs := xs) (Rel := fun H v k => KiV K H (fun a => a = p ∨ a = la ∨ a = lb) v k) (fun _ _ _ h => h.dp) (fun Ha Hb v k h m t => h.mv (fun a o n => m a o (fun e => n (.inl e)) (fun e => n (.inr (.inl e))) (fun e => n (.inr (.inr e)))) t fun _ _ _ n => n) (fun ls hs => shaped_kinds (fun k hk => ksok.nm k (hs k hk)) fun k hk => ksok.rl k (hs k hk)) rfl rfl rfl (e2 _ _ hxs) (hks.imp fun u z _ h => h.mv (fun a o _ => e2 a o) (tx_ex e2) fun a o ha n => fun h => h.elim (fun e => n (.inl e)) fun h => h.elim (fun e => n (.inr e)) fun e => by rw [e, hlb] at ha; cases ha) hb (pu1.ex e2) nab nap nbp (by have := ksok.ok.few; omega) fun H3 ys l h3 hl pm m3 pu3 => ?_
  have hlb0 : H lb = none := m1.none nbp hlb
  refine ⟨_, rfl, q lb H3 ys l (ksok.perm pm) hlb0 (fun a o n ha => m3 a o n (fun e => by rw [e, hla] at ha; cases ha) (fun e => by rw [e, hlb0] at ha; cases ha) (e2 _ _ (m1 a o n ha))) pu3 h3 (hl.imp fun u z _ h => h.mv (fun _ _ _ h => h) (fun _ _ h => h) fun a o _ n => fun h => n (h.elim .inl fun e => .inr (.inr e)))⟩
end
end Fell

/-! FP20 -/
set_option Elab.async false
set_option linter.all false
set_option maxRecDepth 100000
set_option maxHeartbeats 4000000
/-! A book with endless kinds: sort_needed tells so, the law sees it. -/
namespace Fell
open PySem PySem.Spec PyProof.Rows L2 Evl
def CalE (P : Program) (w : World) (K : KK) (mg : Str → Option Value) (base : Heap) (k : Nat) (x : Str) (sp : Sp) : Prop :=
  ∃ f fd ps, FnOk P w K mg base (L2.CX P w) k f fd ps sp ∧ mg x = some (.ref f) ∧ PySem.W.keepIn K (.ref f) = true ∧ Binds K fd ps []
/-- a class that the error at aE is none of -/
def NotOf (K : KK) (mg : Str → Option Value) (aE : Addr) (x : Str) : Prop := ∃ a, mg x = some (.ref a) ∧ PySem.W.kitOne K (.ref aE) (.ref a) = some false
/-- what the top has written of the errors -/
structure TxtE (K : KK) (mg : Str → Option Value) (aF aE iE : Addr) : Prop where
  gF : mg "FellError" = some (.ref aF)
  gE : mg "Endless" = some (.ref aE)
  oE : OexC K aE
  iI : PySem.W.findIn K (.ref aE) "__init__" = some (some (.ref iE))
  tI : PySem.W.typeIn K (.ref iE) = some (.type "function")
  noK : PySem.W.findIn K (.ref aE) "kind" = some none
  xE : XfC K aE
  isE : IsC K aE
  i_E : ∃ fd, FunD K "__init__" "Endless.__init__" (defArgs (inClass (top 13) 0)) (defBody (inClass (top 13) 0)) (defScope (inClass (top 13) 0)) [] [] iE fd
  exm : PySem.W.exmOne K (.ref aE) (.ref aF) = some true
  kE : PySem.W.kitOne K (.ref aE) (.ref aE) = some true
  kV : PySem.W.kitOne K (.ref aE) (.type "ValueError") = some true
  n_V : mg "ValueError" = none
  k_NoLadder : NotOf K mg aE "NoLadder"
  k_NoRest : NotOf K mg aE "NoRest"
  k_NoGrove : NotOf K mg aE "NoGrove"
  k_NoPlace : NotOf K mg aE "NoPlace"
  k_NoBook : NotOf K mg aE "NoBook"
  k_NoKind : NotOf K mg aE "NoKind"
  k_NoRule : NotOf K mg aE "NoRule"
  k_NoNumber : NotOf K mg aE "NoNumber"
  k_TooGreat : NotOf K mg aE "TooGreat"
  k_NoRise : NotOf K mg aE "NoRise"
  k_NoFall : NotOf K mg aE "NoFall"
  k_NotEndless : NotOf K mg aE "NotEndless"
  k_NoWorths : NotOf K mg aE "NoWorths"
  k_NoDrop : NotOf K mg aE "NoDrop"
  k_NoReach : NotOf K mg aE "NoReach"
  k_TooLong : NotOf K mg aE "TooLong"
  k_NoRow : NotOf K mg aE "NoRow"
  k_NoName : NotOf K mg aE "NoName"
section
variable {P : Program} {w : World} {K : KK} {mg : Str → Option Value} {base : Heap} {aO aS B bI aF aE iE : Addr}
theorem calX {x : Str} {st : Stmt} {N ps : List Str} {k : Nat} {sp : Sp} (a : At K mg x st) (sc : FnScope N ps (defScope st)) (len : ∀ vs H Q E, sp vs H Q E → vs.length = ps.length)
    (hb : ∀ (kV doc pm : Value) (an : Option Addr) (cdv ct : Value) (us : List Value), us.length = ps.length → bindArgs (PySem.W.fnOf x x (defArgs st) (defBody st) (defScope st) .none kV doc pm an cdv ct) ⟨us, []⟩ = pure (ps.zip us))
    (hbody : ∀ (f : Addr) (cdv : Value) (A : Around) (outer : List Env) (s : Shared) (H : Hp) (vs : List V) (Q : VK) (E : XK), Room k (A.deeper (envOfC x (defScope st) s.heap.objs.size f cdv)) → sp vs H Q E →
      ∃ t, PSs (cxOf (L2.CX P w) P w K mg base N x (defScope st) f cdv A outer s H E) (defBody st) t ∧ t { nx := fun _ H' => Q .non H', rt := Q } (start N vs) H) : CalE P w K mg base (k + 1) x sp := by
  obtain ⟨f, fd, F, hm⟩ := a
  exact ⟨f, fd, ps, F.ok sc len fun cdv A outer s H vs Q E hr hsp => hbody f cdv A outer s H vs Q E hr hsp, hm, F.kp, FunD.bindsN (ps := ps) F hb⟩
def spEI (aE : Addr) : Sp := fun vs H Q _ => ∃ x k, vs = [.ref x, k] ∧ H x = some (exo x aE none) ∧ ∀ dx, H dx = none → dx ≠ x → Q .non (upd (upd H dx (exd dx [("kind", k)])) x (exo x aE (some dx)))
theorem i_Endless (TE : TxtE K mg aF aE iE) : ∃ fd, FnOk P w K mg base CX0 1 iE fd ["self", "kind"] (spEI aE) ∧ Binds K fd ["self", "kind"] [] := by
  obtain ⟨fd, F⟩ := TE.i_E
  have sc : FnScope ["self", "kind"] ["self", "kind"] (defScope (inClass (top 13) 0)) := ⟨rfl, rfl, rfl, by decide +kernel, rfl, by decide +kernel, by decide +kernel⟩
  refine ⟨fd, F.ok sc (fun vs H Q E ⟨_, _, e, _⟩ => by rw [e]; rfl) fun cdv A outer s H vs Q E hr h => ?_, FunD.bindsN (ps := ["self", "kind"]) F (fun _ _ _ _ _ _ us hl => match us, hl with | [_, _], _ => rfl)⟩
  refine ⟨_, pss_one (ps_ost (pv 0) (pv 1)), ?_⟩
  obtain ⟨x, k, rfl, hx, q⟩ := h
  exact ⟨_, rfl, _, rfl, x, aE, rfl, TE.oE, TE.noK, .inl ⟨hx, fun dx hdx hne => q dx hdx hne⟩⟩
/-- sort_needed where kinds are endless -/
def spSortE (K : KK) (B aE : Addr) : Sp := fun vs H _ E => ∃ b bk S, vs = [.ref b] ∧ BookAt K B H b bk ∧ IsLE bk S ∧ S ≠ [] ∧ ∀ n d H2, S[0]? = some n → Ex H H2 → H2 d = some (.xd [("kind", .str n)]) → E (.ref aE) (some d) H2
theorem e_sort_needed (T : Txt K mg aO aS B bI) (TE : TxtE K mg aF aE iE) : CalE P w K mg base 8 "sort_needed" (spSortE K B aE) := by
  have c_endless_kinds := c_endless_kinds (P := P) (w := w) (base := base) T
  obtain ⟨fd1, F1, b1⟩ := i_Endless (P := P) (w := w) (base := base) TE
  have sc : FnScope ["book", "endless", "told", "needed", "first", "name", "place"] ["book"] (defScope (top 58)) := ⟨rfl, rfl, rfl, by decide +kernel, rfl, by decide +kernel, by decide +kernel⟩
  refine calX T.a_sort_needed sc (fun vs H Q E ⟨_, _, _, e, _⟩ => by rw [e]; rfl) (fun _ _ _ _ _ _ us hl => match us, hl with | [_], _ => rfl) fun f cdv A outer s H vs Q E hr h => ?_
  refine ⟨_, (pss_cons (ps_set (i := 1) sc.nd rfl (Or.inl rfl) (pe_c c_endless_kinds hr (by omega) rfl (pa_cons (pv 0) pa_nil)))
    (pss_cons (ps_if (pt_cmpR (show OpR _ _ (rNeD K) from (op_neD hr.units)) (pv 1) (pe_lst pa_nil) (nomark _)) (pss_one (ps_raise (W := fun cls d _ H => E cls d H) rfl (takes_of rfl rfl rfl rfl) (pmk_oex TE.oE TE.iI TE.tI F1 (hr.mono (by omega)) b1 .nil pass0 rfl TE.gE (pa_cons (pe_ix (show IxR _ (rIxL K) from ix_list) (pv 1) pe_int (fun _ _ => rfl)) pa_nil)))) pss_nil) pss_never)), ?_⟩
  obtain ⟨b, bk, S, rfl, ba, le, hne, q⟩ := h
  show (_ : TS) _ [some (.ref b), none, none, none, none, none, none] H
  refine asg_in (ep_endless (ev_var rfl) ba H (Ex.refl _) _ fun d v H1 hd e1 hv => ?_)
  obtain ⟨S', hS', rfl⟩ := hd
  refine g_name ?_
  show (_ : TS) _ [some (.ref b), some v, none, none, none, none, none] H1
  have sm := le.same ba.ok hS'
  obtain ⟨n, S0, rfl⟩ : ∃ n r, S = n :: r := by
    cases S with
    | nil => exact absurd rfl hne
    | cons n r => exact ⟨n, r, rfl⟩
  obtain ⟨n', S0', rfl⟩ : ∃ n r, S' = n :: r := by
    cases S' with
    | nil => exact nomatch (sm n).mpr List.mem_cons_self
    | cons n r => exact ⟨n, r, rfl⟩
  have en : n' = n := asc_head hS'.asc le.asc sm
  subst en
  refine q_when (et_test (ev_neD (d := .list ((n' :: S0').map PyData.str)) (d' := .list []) (ed_var rfl hv) ed_nilL (shaped_strs fun k hk => ba.sg k ((le.mem k).mp ((sm k).mp hk)).1) shaped_nilL)) (fun hb H2 e2 => ?_) fun hb => by simp [eqv_nilL] at hb
  have hv2 := dp_ex e2 hv
  refine (ed_atL (K := K) (σ := [some (.ref b), some v, none, none, none, none, none]) (H := H2) (ta := tVar 1) (i := 0) (d := .str n') (ds := (n' :: S0').map PyData.str) (ed_var rfl hv2) rfl) H2 (Ex.refl _) _ fun u H3 e3 hu => ?_
  rw [dp_str hu]
  refine ⟨by show 1 ≤ 1000; decide, fun a ha => ⟨a, .str n', rfl, upd_same, fun dx hdx hnx => ⟨rfl, dx, [("kind", .str n')], upd_same, ?_, ?_, ?_⟩⟩⟩
  · rw [upd_ne hnx, upd_same]
  · rw [upd_ne hnx] at hdx; exact hdx
  · refine q n' dx _ rfl ?_ upd_same
    have hdx' : H3 dx = none := by rw [upd_ne hnx] at hdx; exact hdx
    intro c o hc
    have h3 := e3 _ _ (e2 _ _ (e1 _ _ hc))
    have nca : c ≠ a := ne_of_none h3 ha
    have ncd : c ≠ dx := ne_of_none h3 hdx'
    rw [upd_ne ncd, del_ne nca, upd_ne nca, upd_ne ncd, upd_ne nca]
    exact h3
/-- isinstance(e, ..), e the caught error whose class is told to the suite -/
def rIsY (K : KK) (a : Addr) (cls : Value) (d : Option Addr) : List V → Hp → VK → Prop := fun xs H Q => ∃ D dd, cls = .ref D ∧ d = some dd ∧ IsC K D ∧ rIsX K D a dd xs H Q
theorem call_isY {X : Cx} {a : Addr} {oe : Obj} {pn : List (Addr × Obj)} {cls : Value} {d : Option Addr} (hz : Zc cls d oe) (hf : ∃ vs, oe.data = .fields vs) : CallR (X.suite a ((a, oe) :: pn)) (.builtin "isinstance") (rIsY X.K a cls d) := by
  intro pins s σ H xs us Q I r h
  obtain ⟨D, dd, rfl, rfl, C, h⟩ := h
  exact call_isX C hz hf pins s σ H xs us Q I r h
def rIsYT (K : KK) (a : Addr) (cls : Value) (d : Option Addr) : List V → Hp → VK → Prop := fun xs H Q => ∃ D dd, cls = .ref D ∧ d = some dd ∧ IsC K D ∧ rIsXT K D a dd xs H Q
theorem call_isYT {X : Cx} {a : Addr} {oe : Obj} {pn : List (Addr × Obj)} {cls : Value} {d : Option Addr} (hz : Zc cls d oe) (hf : ∃ vs, oe.data = .fields vs) : CallR (X.suite a ((a, oe) :: pn)) (.builtin "isinstance") (rIsYT X.K a cls d) := by
  intro pins s σ H xs us Q I r h
  obtain ⟨D, dd, rfl, rfl, C, h⟩ := h
  exact call_isXT C hz hf pins s σ H xs us Q I r h
theorem b_ValueError : bootBuiltins "ValueError" = some (.type "ValueError") := by decide +kernel
theorem kit_none {t : Value} : ∀ {us : List Value}, (∀ u ∈ us, PySem.W.kitOne K t u = some false) → PySem.W.kitAny K t us = some false
  | [], _ => rfl
  | u :: us, h => by
    have h0 := h u List.mem_cons_self
    have h1 := kit_none (us := us) fun x hx => h x (List.mem_cons_of_mem _ hx)
    unfold PySem.W.kitAny
    rw [h0]
    exact h1
theorem ev_isYT {σ : L2.St} {H : Hp} {i : Nat} {a d : Addr} {ta : TA} {cs : List V} {us : List Value} {fs : List (Str × V)} {b : Bool} (h2 : σ[i]? = some (some (.ref a))) (ha : EvA ta σ H cs) (hl : cs.length ≤ 100) (pc : Paired ClsV cs us) (hd : H d = some (.xd fs)) (isE : IsC K aE) (hk : PySem.W.kitAny K (.ref aE) us = some b) :
    Ev (tCB (rIsYT K a (.ref aE) (some d)) (tCons (tVar i) (tCons (tTup ta) tNil))) σ H (.bl b) := fun H1 e Q q =>
  ⟨_, h2, ha H1 e _ fun H2 e2 => ⟨sz_of (by omega), fun tp htp => ⟨aE, d, rfl, rfl, isE, tp, cs, us, b, fs, rfl, upd_same, pc, ((e.trans e2).trans (Ex.new htp)) _ _ hd, hk, q _ (e2.trans (Ex.new htp))⟩⟩⟩
theorem ev_isY {σ : L2.St} {H : Hp} {i : Nat} {a d : Addr} {te : TE} {c : V} {u : Value} {fs : List (Str × V)} {b : Bool} (h2 : σ[i]? = some (some (.ref a))) (ha : Ev te σ H c) (pc : ClsV c u) (hd : H d = some (.xd fs)) (isE : IsC K aE) (hk : PySem.W.kitOne K (.ref aE) u = some b) :
    Ev (tCB (rIsY K a (.ref aE) (some d)) (tCons (tVar i) (tCons te tNil))) σ H (.bl b) := fun H1 e Q q =>
  ⟨_, h2, ha H1 e _ fun H2 e2 => ⟨aE, d, rfl, rfl, isE, c, u, b, fs, rfl, pc, (e.trans e2) _ _ hd, hk, q H2 e2⟩⟩
/-- _law_refused(book, kind) -/
def spRef (K : KK) (B : Addr) : Sp := fun vs H Q _ => ∃ b n bk S, vs = [.ref b, .str n] ∧ BookAt K B H b bk ∧ IsLE bk S ∧ S[0]? = some n ∧ ∀ H2, Ex H H2 → Q (.bl true) H2
theorem c__law_refused (T : Txt K mg aO aS B bI) (TE : TxtE K mg aF aE iE) : Cal P w K mg base 9 "_law_refused" (spRef K B) := by
  obtain ⟨fS, fdS, psS, FS, mS, kS, bS⟩ := e_sort_needed (P := P) (w := w) (base := base) T TE
  have sc : FnScope ["_law_book", "_law_kind", "e"] ["_law_book", "_law_kind"] (defScope (top 87)) := ⟨rfl, rfl, rfl, by decide +kernel, rfl, by decide +kernel, by decide +kernel⟩
  refine calD T.a__law_refused sc (fun vs H Q E ⟨_, _, _, _, e, _⟩ => by rw [e]; rfl) (fun _ _ _ _ _ _ us hl => match us, hl with | [_, _], _ => rfl) fun f cdv A outer s H vs Q E hr h => ?_
  refine ⟨_, (pss_cons (ps_try_as (i := 2) (c := .ref aF) (Wout := fun _ _ _ _ => False) rfl rfl sc.nd rfl rfl ⟨rfl, by decide, .inl TE.gF⟩ takes0
      (fun W pn xe tk _ => pss_one (ps_expr (pe_callS FS hr rfl mS kS bS (fun σ => passAt tk σ) (pa_cons (pv 0) pa_nil))))
      (fun a oe cls d pn hz hf =>
        (pss_cons (ps_if (pt_val (pe_callB (call_isYT hz hf) rfl T.n_isinstance b_isinstance (pa_cons (pv 2) (pa_cons (pe_tup (pa_cons (pe_gc (v := .ref TE.k_NoLadder.choose) rfl ⟨_, TE.k_NoLadder.choose_spec.1, rfl⟩) (pa_cons (pe_gc (v := .ref TE.k_NoRest.choose) rfl ⟨_, TE.k_NoRest.choose_spec.1, rfl⟩) (pa_cons (pe_gc (v := .ref TE.k_NoGrove.choose) rfl ⟨_, TE.k_NoGrove.choose_spec.1, rfl⟩) (pa_cons (pe_gc (v := .ref TE.k_NoPlace.choose) rfl ⟨_, TE.k_NoPlace.choose_spec.1, rfl⟩) (pa_cons (pe_gc (v := .ref TE.k_NoBook.choose) rfl ⟨_, TE.k_NoBook.choose_spec.1, rfl⟩) (pa_cons (pe_gc (v := .ref TE.k_NoKind.choose) rfl ⟨_, TE.k_NoKind.choose_spec.1, rfl⟩) (pa_cons (pe_gc (v := .ref TE.k_NoRule.choose) rfl ⟨_, TE.k_NoRule.choose_spec.1, rfl⟩) (pa_cons (pe_gc (v := .ref TE.k_NoNumber.choose) rfl ⟨_, TE.k_NoNumber.choose_spec.1, rfl⟩) (pa_cons (pe_gc (v := .ref TE.k_TooGreat.choose) rfl ⟨_, TE.k_TooGreat.choose_spec.1, rfl⟩) (pa_cons (pe_gc (v := .ref TE.k_NoRise.choose) rfl ⟨_, TE.k_NoRise.choose_spec.1, rfl⟩) pa_nil))))))))))) pa_nil)))) (pss_one (ps_ret pe_bl)) pss_nil)
        (pss_cons (ps_if (pt_val (pe_callB (call_isYT hz hf) rfl T.n_isinstance b_isinstance (pa_cons (pv 2) (pa_cons (pe_tup (pa_cons (pe_gc (v := .ref TE.k_NoFall.choose) rfl ⟨_, TE.k_NoFall.choose_spec.1, rfl⟩) (pa_cons (pe_gc (v := .ref TE.k_NotEndless.choose) rfl ⟨_, TE.k_NotEndless.choose_spec.1, rfl⟩) (pa_cons (pe_gc (v := .ref TE.k_NoWorths.choose) rfl ⟨_, TE.k_NoWorths.choose_spec.1, rfl⟩) (pa_cons (pe_gc (v := .ref TE.k_NoDrop.choose) rfl ⟨_, TE.k_NoDrop.choose_spec.1, rfl⟩) (pa_cons (pe_gc (v := .ref TE.k_NoReach.choose) rfl ⟨_, TE.k_NoReach.choose_spec.1, rfl⟩) (pa_cons (pe_gc (v := .ref TE.k_TooLong.choose) rfl ⟨_, TE.k_TooLong.choose_spec.1, rfl⟩) (pa_cons (pe_gc (v := .ref TE.k_NoRow.choose) rfl ⟨_, TE.k_NoRow.choose_spec.1, rfl⟩) (pa_cons (pe_gc (v := .ref TE.k_NoName.choose) rfl ⟨_, TE.k_NoName.choose_spec.1, rfl⟩) pa_nil))))))))) pa_nil)))) (pss_one (ps_ret pe_bl)) pss_nil)
        (pss_one (ps_ret (pe_and (pe_callB (call_isY hz hf) rfl T.n_isinstance b_isinstance (pa_cons (pv 2) (pa_cons (pe_gc (v := .ref aE) rfl ⟨_, TE.gE, rfl⟩) pa_nil)))
          (pe_and (pe_callB (call_isY hz hf) rfl T.n_isinstance b_isinstance (pa_cons (pv 2) (pa_cons (pe_bltn (v := .ty "ValueError") rfl TE.n_V b_ValueError rfl) pa_nil)))
          (pe_one (pe_cmpR op_eq (pe_xf TE.xE TE.noK hz hf (pv 2)) (pv 1) (nomark _)))))))))))
    (pss_one (ps_ret pe_bl))), ?_⟩
  obtain ⟨b, n, bk, S, rfl, ba, le, hS, q⟩ := h
  show (_ : TS) _ [some (.ref b), some (.str n), none] H
  refine ⟨_, rfl, b, bk, S, rfl, ba, le, (fun e => by rw [e] at hS; cases hS), fun n' d H2 hn' e hd => ⟨true, TE.exm, fun _ a ha => ?_, fun h => nomatch h⟩⟩
  have en : n' = n := by rw [hS] at hn'; exact (Option.some.inj hn').symm
  subst en
  show (_ : TS) _ [some (.ref b), some (.str n'), some (.ref a)] H2
  refine q_when (et_B (ev_isYT (K := K) (cs := [.ref TE.k_NoLadder.choose, .ref TE.k_NoRest.choose, .ref TE.k_NoGrove.choose, .ref TE.k_NoPlace.choose, .ref TE.k_NoBook.choose, .ref TE.k_NoKind.choose, .ref TE.k_NoRule.choose, .ref TE.k_NoNumber.choose, .ref TE.k_TooGreat.choose, .ref TE.k_NoRise.choose]) (us := [.ref TE.k_NoLadder.choose, .ref TE.k_NoRest.choose, .ref TE.k_NoGrove.choose, .ref TE.k_NoPlace.choose, .ref TE.k_NoBook.choose, .ref TE.k_NoKind.choose, .ref TE.k_NoRule.choose, .ref TE.k_NoNumber.choose, .ref TE.k_TooGreat.choose, .ref TE.k_NoRise.choose]) rfl (ea_cons ev_c (ea_cons ev_c (ea_cons ev_c (ea_cons ev_c (ea_cons ev_c (ea_cons ev_c (ea_cons ev_c (ea_cons ev_c (ea_cons ev_c (ea_cons ev_c ea_nil)))))))))) (by show 10 ≤ 100; decide) (.cons (.own _) (.cons (.own _) (.cons (.own _) (.cons (.own _) (.cons (.own _) (.cons (.own _) (.cons (.own _) (.cons (.own _) (.cons (.own _) (.cons (.own _) .nil)))))))))) hd TE.isE (kit_none fun u hu => by
    simp only [List.mem_cons, List.not_mem_nil, or_false] at hu
    rcases hu with rfl | rfl | rfl | rfl | rfl | rfl | rfl | rfl | rfl | rfl
    · exact TE.k_NoLadder.choose_spec.2
    · exact TE.k_NoRest.choose_spec.2
    · exact TE.k_NoGrove.choose_spec.2
    · exact TE.k_NoPlace.choose_spec.2
    · exact TE.k_NoBook.choose_spec.2
    · exact TE.k_NoKind.choose_spec.2
    · exact TE.k_NoRule.choose_spec.2
    · exact TE.k_NoNumber.choose_spec.2
    · exact TE.k_TooGreat.choose_spec.2
    · exact TE.k_NoRise.choose_spec.2))) (fun hb => nomatch hb) fun _ H3 e3 => ?_
  have hd3 := e3 _ _ hd
  refine q_when (et_B (ev_isYT (K := K) (cs := [.ref TE.k_NoFall.choose, .ref TE.k_NotEndless.choose, .ref TE.k_NoWorths.choose, .ref TE.k_NoDrop.choose, .ref TE.k_NoReach.choose, .ref TE.k_TooLong.choose, .ref TE.k_NoRow.choose, .ref TE.k_NoName.choose]) (us := [.ref TE.k_NoFall.choose, .ref TE.k_NotEndless.choose, .ref TE.k_NoWorths.choose, .ref TE.k_NoDrop.choose, .ref TE.k_NoReach.choose, .ref TE.k_TooLong.choose, .ref TE.k_NoRow.choose, .ref TE.k_NoName.choose]) rfl (ea_cons ev_c (ea_cons ev_c (ea_cons ev_c (ea_cons ev_c (ea_cons ev_c (ea_cons ev_c (ea_cons ev_c (ea_cons ev_c ea_nil)))))))) (by show 8 ≤ 100; decide) (.cons (.own _) (.cons (.own _) (.cons (.own _) (.cons (.own _) (.cons (.own _) (.cons (.own _) (.cons (.own _) (.cons (.own _) .nil)))))))) hd3 TE.isE (kit_none fun u hu => by
    simp only [List.mem_cons, List.not_mem_nil, or_false] at hu
    rcases hu with rfl | rfl | rfl | rfl | rfl | rfl | rfl | rfl
    · exact TE.k_NoFall.choose_spec.2
    · exact TE.k_NotEndless.choose_spec.2
    · exact TE.k_NoWorths.choose_spec.2
    · exact TE.k_NoDrop.choose_spec.2
    · exact TE.k_NoReach.choose_spec.2
    · exact TE.k_TooLong.choose_spec.2
    · exact TE.k_NoRow.choose_spec.2
    · exact TE.k_NoName.choose_spec.2))) (fun hb => nomatch hb) fun _ H4 e4 => ?_
  have hd4 := e4 _ _ hd3
  refine s_ret (v := .bl true) ?_ fun H5 e5 => q H5 (((e.trans e3).trans e4).trans e5)
  exact ev_andV (a := true) (b := true) (ev_isY (K := K) rfl ev_c (.own _) hd4 TE.isE TE.kE) fun _ => ev_andV (a := true) (b := true) (ev_isY (K := K) rfl ev_c (.ty _) hd4 TE.isE TE.kV) fun _ => fun H5 e5 Q' q' =>
    ⟨_, rfl, rfl, rfl, d, _, .str n', rfl, e5 _ _ hd4, rfl, _, rfl, rfl, by
      have : decide (V.str n' = V.str n') = true := decide_eq_true rfl
      rw [this]
      exact q' H5 (Ex.refl _)⟩
end
end Fell

/-! FP21 -/
set_option Elab.async false
set_option linter.all false
set_option maxRecDepth 100000
set_option maxHeartbeats 4000000
/-! The law. -/
namespace Fell
open PySem PySem.Spec PyProof.Rows L2 Evl
section
variable {P : Program} {w : World} {K : KK} {mg : Str → Option Value} {base : Heap} {aO aS B bI aF aE iE : Addr}
theorem if_true_of {c : Bool} {A B : Prop} (hc : c = true) (h : A) : if c = true then A else B := by
  rw [if_pos hc]
  exact h
theorem cut_ints {ns : List Int} : ∃ zs : List Int, cutV (ns.map V.int) (some 1) (some 6) = zs.map V.int ∧ zs.length ≤ 5 := by
  unfold cutV
  have e1 : HT.sIx (ns.map V.int).length 0 (some (1 : Int)) = min 1 (ns.map V.int).length := HT.sIx_nat _ _ 1
  have e2 : HT.sIx (ns.map V.int).length (ns.map V.int).length (some (6 : Int)) = min 6 (ns.map V.int).length := HT.sIx_nat _ _ 6
  rw [e1, e2]
  refine ⟨(ns.drop (min 1 (ns.map V.int).length)).take (min 6 (ns.map V.int).length - min 1 (ns.map V.int).length), by rw [List.map_take, List.map_drop], ?_⟩
  rw [List.length_take, List.length_drop]
  rw [List.length_map]
  omega
/-- over enumerate(a new list that is not known) -/
theorem s_forEFP {σ : L2.St} {H : Hp} {tl : TE} {g : TG} {tu : TS} {D : Ends} {Pst : List PyData → Prop} (h : EvFP K tl σ H Pst) (hn : ∀ fs, Pst fs → noLs fs = true) (Pv : Hp → L2.St → Hp → Prop) (h0 : ∀ H1, Ex H H1 → Pv H1 σ H1)
    (ht : ∀ H1 σ' H', Pv H1 σ' H' → Ex H1 H')
    (hs : ∀ fs H1, Pst fs → Ex H H1 → ∀ (i : Nat) d x σ' H0 H', fs[i]? = some d → Dp K H' x (.tuple [.int (i : Nat), d]) → Pv H1 σ' H0 → Ex H0 H' → g x σ' H' fun σ2 H2 => tu { D with nx := Pv H1, ct := Pv H1, bk := D.nx } σ2 H2)
    (hd : ∀ H1, Ex H H1 → ∀ σ' H', Pv H1 σ' H' → D.nx σ' H') : tFor (iEnum K (tCons tl tNil)) g tu D σ H := h H (Ex.refl H) _ fun fs p H1 pst hp e1 l => by
  obtain ⟨xs, hq, hx⟩ := id l
  refine ⟨p, xs, rfl, sq_of hq, for_enumL (fun _ σ' H' => Pv H1 σ' H') (h0 H1 e1) (fun i σ' H' pv => sq_of (ht H1 σ' H' pv _ _ hq)) (fun i x T σ' H' hi pv hT => ?_) fun σ' H' pv => hd H1 e1 σ' H' pv⟩
  obtain ⟨d, d1, d2⟩ := dpa_get hx hi
  have E := (ht H1 σ' H' pv).trans (Ex.new (o := .tup [.int (i : Nat), x]) hT)
  exact hs fs H1 pst e1 i d _ σ' H' _ d1 (.tup (st_of upd_same) (.cons (.int _) (.cons (dp_ex E d2) .nil))) pv (Ex.new hT)
theorem yes_in {te : TE} {σ : L2.St} {H : Hp} {Q : VK} {R : Hp → Prop} (h : te σ H Q) : tYes σ H fun b H3 => if b = true then te σ H3 Q else R H3 := by
  show if true = true then te σ H Q else R H
  exact if_true_of rfl h
/-- [(name, spreading, list(told)) for name, spreading, told in kinds] -/
theorem bk_lc {H : Hp} {s0 s1 s2 s4 s5 s6 : Option V} {v : V} {ks : List Kind} (hv : Dp K H v (.list (ks.map kindD))) (hl : ks.length ≤ 8) (Q : VK) (q : ∀ Dl H3, Ex H H3 → Dp K H3 (.ref Dl) (.list (ks.map kindD)) → Q (.ref Dl) H3) :
    tLc (iList K (tVar 3)) (gTup K 3 (gCons (gName 7) (gCons (gName 8) (gCons (gName 9) gNil)))) tYes (tTup (tCons (tVar 7) (tCons (tVar 8) (tCons (tCB (rListS K) (tCons (tVar 9) tNil)) tNil)))) [7, 8, 9] [s0, s1, s2, some v, s4, s5, s6, none, none, none] H Q := by
  obtain ⟨lf, xs, rfl, hs, hx⟩ := dp_lst hv
  have nl := dpa_len hx
  rw [List.length_map] at nl
  refine ⟨_, rfl, lf, rfl, ⟨xs, hs⟩, fun Dl hD => lc_list (xs := xs) (fun i H' => Ex H H' ∧ ∃ acc, H' Dl = some (.lst acc) ∧ All2 (KiV K H' (fun a => a = Dl)) acc (ks.take i)) ⟨Ex.new hD, [], upd_same, .nil⟩ (fun i H' _ p => ex_l p.1 hs) (fun i x H' hi p => ?_) fun H' p => ?_⟩
  · obtain ⟨ex, acc, hacc, hall⟩ := p
    obtain ⟨d, h1, h2⟩ := dpa_get hx hi
    rw [List.getElem?_map] at h1
    cases hki : ks[i]? with
    | none => rw [hki] at h1; cases h1
    | some k =>
    rw [hki] at h1
    cases h1
    have h2' : Dp K H' x (.tuple [.str k.name, .bool k.spr, .list (k.rules.map ruleD)]) := dp_ex ex h2
    refine g_three h2' fun w1 w2 w3 d1 d2 d3 => ⟨rfl, ?_⟩
    have e1 := dp_str d1
    subst e1
    have e2 : w2 = .bl k.spr := by cases d2; rfl
    subst e2
    refine yes_in ?_
    show (_ : TE) [s0, s1, s2, some (.ref lf), s4, s5, s6, some (.str k.name), some (.bl k.spr), some w3] H' _
    refine ⟨_, rfl, _, rfl, ?_⟩
    refine tc_one ((ek_listL (K := K) (σ := [s0, s1, s2, some (.ref lf), s4, s5, s6, some (.str k.name), some (.bl k.spr), some w3]) (H := H') (ed_var rfl d3)) H' (Ex.refl _) _ fun l Hb hlb eb lb => ⟨sz_of (by show 3 ≤ 100000; decide), fun tt htt => ?_⟩)
    have hb := eb _ _ hacc
    have e4 : Ex Hb (upd Hb tt (.tup [.str k.name, .bl k.spr, .ref l])) := Ex.new htt
    have t4 : SqT K (upd Hb tt (.tup [.str k.name, .bl k.spr, .ref l])) tt [.str k.name, .bl k.spr, .ref l] := st_of upd_same
    revert e4 t4
    generalize upd Hb tt (.tup [.str k.name, .bl k.spr, .ref l]) = H4
    intro e4 t4
    have h4 := e4 _ _ hb
    have al := hall.len
    rw [List.length_take] at al
    have t5 : Tx H4 (upd H4 Dl (.lst (acc ++ [.ref tt]))) := tx_lst h4
    obtain ⟨ys, hys, hyd⟩ := lb.ex e4
    have nlD : l ≠ Dl := fun e => by rw [e, hacc] at hlb; cases hlb
    have ht : ks.take (i + 1) = ks.take i ++ [k] := by rw [List.take_add_one, hki]; rfl
    refine ⟨acc, h4, sz_lt (by omega), Ex.mut ((ex.trans eb).trans e4) hD, acc ++ [.ref tt], upd_same, ?_⟩
    rw [ht]
    refine (hall.imp fun u z _ h => h.mv (fun a o n ha => by rw [upd_ne n]; exact (eb.trans e4) a o ha) ((tx_ex (eb.trans e4)).trans t5) fun _ _ _ n => n).app (.cons ⟨tt, l, ys, rfl, tx_t t5 t4, ?_, nlD, dpa_tx t5 (noLs_map nol_rule) hyd⟩ .nil)
    rw [upd_ne nlD]
    exact hys
  · obtain ⟨ex, acc, hacc, hall⟩ := p
    rw [nl, List.take_length] at hall
    exact q Dl H' ex (.lst (sq_of hacc) (all2_dpa (fun _ _ h => h.dp) hall))
def spLaw (K : KK) : Sp := fun vs H Q _ => ∃ (a : Addr) (ns : List Int), vs = [.ref a] ∧ SqL K H a (ns.map V.int) ∧ ∀ H', Q (.bl true) H'
theorem sort_okS {m : Nat} (h : m < 4) : okS (sorts.getD m "") := by
  match m, h with
  | 0, _ => show PyData.strOk (sorts.getD 0 "") = true; decide +kernel
  | 1, _ => show PyData.strOk (sorts.getD 1 "") = true; decide +kernel
  | 2, _ => show PyData.strOk (sorts.getD 2 "") = true; decide +kernel
  | 3, _ => show PyData.strOk (sorts.getD 3 "") = true; decide +kernel
theorem shaped_sort {m : Nat} {nm : Str} (h : m < 4) (hn : okS nm) : SeqAt.shaped (.tuple [.str (sorts.getD m ""), .str nm]) = true := by
  have a1 : PyData.strOk (sorts.getD m "") = true := sort_okS h
  have a2 : PyData.strOk nm = true := hn
  revert a1
  generalize sorts.getD m "" = x
  intro a1
  have e2 : (PyData.tuple [.str x, .str nm]).canLay0 = true := by simp [PyData.canLay0, PyData.canLayAll0, a1, a2]
  have e : (PyData.tuple [.str x, .str nm]).depth = 1 := by simp [PyData.depth, PyData.depthAll]
  unfold SeqAt.shaped
  rw [e2, e]
  decide
theorem ok_law {f : Addr} {fd : FuncData} (F : FunD K "law" "law" (defArgs (top 89)) (defBody (top 89)) (defScope (top 89)) [] [] f fd) (T : Txt K mg aO aS B bI) (TE : TxtE K mg aF aE iE) : FnOk P w K mg base CX0 39 f fd ["_law_script"] (spLaw K) := by
  have c__law_at := c__law_at (P := P) (w := w) (base := base) T
  have c__law_purse := c__law_purse (P := P) (w := w) (base := base) T
  have c__law_kinds := c__law_kinds (P := P) (w := w) (base := base) T
  have k_Book := k_Book (P := P) (w := w) (base := base) T
  have c__law_endless := c__law_endless (P := P) (w := w) (base := base) T
  have c__law_refused := c__law_refused (P := P) (w := w) (base := base) T TE
  have c_sort_needed := c_sort_needed (P := P) (w := w) (base := base) T
  have c__law_needed := c__law_needed (P := P) (w := w) (base := base) T
  have sc : FnScope ["_law_script", "_law_k", "_law_cell", "_law_kinds_here", "_law_book", "_law_endless_here", "_law_found", "_law_name", "_law_spreading", "_law_told"] ["_law_script"] (defScope (top 89)) := ⟨rfl, rfl, rfl, by decide +kernel, rfl, by decide +kernel, by decide +kernel⟩
  refine F.ok sc (fun vs H Q E ⟨_, _, e, _⟩ => by rw [e]; rfl) fun cdv A outer s H vs Q E hr h => ?_
  suffices hh : ∃ t, PSs (cxOf CX0 P w K mg base ["_law_script", "_law_k", "_law_cell", "_law_kinds_here", "_law_book", "_law_endless_here", "_law_found", "_law_name", "_law_spreading", "_law_told"] "law" (defScope (top 89)) f cdv A outer s H E).nox (defBody (top 89)) t ∧ t { nx := fun _ H' => Q .non H', rt := Q } (start ["_law_script", "_law_k", "_law_cell", "_law_kinds_here", "_law_book", "_law_endless_here", "_law_found", "_law_name", "_law_spreading", "_law_told"] vs) H by
    obtain ⟨t, a, b⟩ := hh
    exact ⟨t, a.nox, b⟩
  refine ⟨_, (pss_cons (ps_for PassesOwn.never rfl (pi_enum rfl T.n_enumerate (pa_cons (pe_op op_cat (pe_lst (pa_cons (pe_c c__law_at hr (by omega) rfl (pa_cons (pv 0) (pa_cons pe_int pa_nil))) pa_nil)) (pe_slice sl_list (pv 0) (po_some pe_int) (po_some pe_int))) pa_nil)) (show PG _ _ (gTup K 2 _) from (pg_tup rfl (pgs_cons (pg_name (i := 1) sc.nd rfl (Or.inl rfl)) (pgs_cons (pg_name (i := 2) sc.nd rfl (Or.inl rfl)) pgs_nil))))
      (pss_cons (ps_set (i := 3) sc.nd rfl (Or.inl rfl) (pe_c c__law_kinds hr (by omega) rfl (pa_cons (pe_c c__law_purse hr (by omega) rfl (pa_cons (pv 2) (pa_cons (pv 1) pa_nil))) pa_nil)))
      (pss_cons (ps_set (i := 4) sc.nd rfl (Or.inl rfl) (pe_mk k_Book hr (by omega) rfl (pa_cons (pe_lc (own := [("_law_name", 7), ("_law_spreading", 8), ("_law_told", 9)]) rfl sc.nd (show PI _ _ _ (iList K _) from (pi_list (pv 3))) (blkOk_by (N := ["_law_script", "_law_k", "_law_cell", "_law_kinds_here", "_law_book", "_law_endless_here", "_law_found", "_law_name", "_law_spreading", "_law_told"]) (sc := (defScope (top 89))) (own := [("_law_name", 7), ("_law_spreading", 8), ("_law_told", 9)]) (by decide +kernel)) (fun _ _ _ _ _ => (show PG _ _ (gTup K 3 _) from (pg_tup rfl (pgs_cons (pg_name (i := 7) sc.nd rfl (Or.inl rfl)) (pgs_cons (pg_name (i := 8) sc.nd rfl (Or.inl rfl)) (pgs_cons (pg_name (i := 9) sc.nd rfl (Or.inl rfl)) pgs_nil)))))) (fun _ _ _ _ _ => pts_nil) (fun _ _ _ _ _ => (pe_tup (pa_cons (pv 7) (pa_cons (pv 8) (pa_cons (pe_callTy (show CallR _ _ (rListS K) from call_list_of) rfl T.n_list b_list (pa_cons (pv 9) pa_nil)) pa_nil)))))) pa_nil)))
      (pss_cons (ps_set (i := 5) sc.nd rfl (Or.inl rfl) (pe_c c__law_endless hr (by omega) rfl (pa_cons (pv 3) pa_nil)))
      (pss_one (ps_if (pt_cmpR (show OpR _ _ (rNeD K) from (op_neD hr.units)) (pv 5) (pe_lst pa_nil) (nomark _)) (pss_one (ps_if (pt_not (pt_val (pe_c c__law_refused hr (by omega) rfl (pa_cons (pv 4) (pa_cons (pe_ix (show IxR _ (rIxL K) from ix_list) (pv 5) pe_int (fun _ _ => rfl)) pa_nil))))) (pss_one (ps_ret pe_bl)) pss_nil)) (pss_cons (ps_set (i := 6) sc.nd rfl (Or.inl rfl) (pe_c c_sort_needed hr (by omega) rfl (pa_cons (pv 4) pa_nil)))
        (pss_one (ps_if (pt_bool (pw_or (pt_not (pt_val (pe_callB call_isi rfl T.n_isinstance b_isinstance (pa_cons (pv 6) (pa_cons (pe_bltn (v := .ty "tuple") rfl T.n_tuple b_tuple rfl) pa_nil))))) (pw_or1 (pt_cmpR (show OpR _ _ (rNeD K) from (op_neD hr.units)) (pv 6) (pe_c c__law_needed hr (by omega) rfl (pa_cons (pv 4) (pa_cons (pv 3) pa_nil))) (nomark _))))) (pss_one (ps_ret pe_bl)) pss_nil)))))))))
    (pss_one (ps_ret pe_bl))), ?_⟩
  obtain ⟨a, ns, rfl, hs, q⟩ := h
  show (_ : TS) _ [some (.ref a), none, none, none, none, none, none, none, none, none] H
  refine s_forEFP (K := K) (D := { nx := _, rt := _, bk := _, ct := _ }) (Pst := fun fs => ∃ zs : List Int, fs = zs.map PyData.int ∧ zs.length ≤ 6) (fun H1 e1 Q1 q1 => ?_) (fun fs ⟨zs, e, _⟩ => by rw [e]; exact nol_ints zs) (fun H1 σ' H' => Ex H1 H' ∧ ∃ x1 x2 x3 x4 x5 x6, σ' = [some (.ref a), x1, x2, x3, x4, x5, x6, none, none, none]) (fun H1 _ => ⟨Ex.refl _, _, _, _, _, _, _, rfl⟩) (fun _ _ _ h => h.1) ?_ ?_
  · refine top_in (tlst_in (tc_one ⟨_, rfl, .ref a, 0, ns, rfl, by decide, .lst (ex_l e1 hs) (by
      have : ∀ l : List Int, DpAll K H1 (l.map V.int) (l.map PyData.int) := fun l => by
        induction l with
        | nil => exact .nil
        | cons z l ih => exact .cons (.int z) ih
      exact this ns), fun z H2 e2 => ⟨sz_of (by show 1 ≤ 100000; decide), fun l hl => ?_⟩⟩))
    have e3 : Ex H2 (upd H2 l (.lst [.int z])) := Ex.new hl
    obtain ⟨zs, hz, hz5⟩ := cut_ints (ns := ns)
    refine ⟨_, rfl, 1, rfl, 6, rfl, a, _, rfl, ex_l ((e1.trans e2).trans e3) hs, fun p hp => ?_⟩
    rw [hz]
    have e4 : Ex (upd H2 l (.lst [.int z])) (upd (upd H2 l (.lst [.int z])) p (.lst (zs.map V.int))) := Ex.new hp
    refine ⟨l, p, [.int z], zs.map V.int, rfl, rfl, e4 _ _ upd_same, upd_same, sz_of (by rw [List.length_map]; show 1 + zs.length ≤ 100000; omega), fun s1 hs1 => q1 ((z :: zs).map PyData.int) s1 _ ⟨z :: zs, rfl, by show zs.length + 1 ≤ 6; omega⟩ ?_ (((e2.trans e3).trans e4).trans (Ex.new hs1)) ⟨_, upd_same, ?_⟩⟩
    · exact fresh_back ((e2.trans e3).trans e4) hs1
    · refine .cons (.int z) ?_
      have : ∀ l' : List Int, ∀ Hx, DpAll K Hx (l'.map V.int) (l'.map PyData.int) := fun l' Hx => by
        induction l' with
        | nil => exact .nil
        | cons z l ih => exact .cons (.int z) ih
      exact this zs _
  · rintro fs H1 ⟨zs, rfl, hz6⟩ e1 i d x σ' H0 H' hdi hx ⟨e10, x1, x2, x3, x4, x5, x6, rfl⟩ e0'
    obtain ⟨z, hzi, rfl⟩ := map_get hdi
    have hi : i < zs.length := (List.getElem?_eq_some_iff.mp hzi).1
    refine g_two hx fun w1 w2 hw1 hw2 => ?_
    have q1 := dp_int hw1
    have q2 := dp_int hw2
    subst q1 q2
    show (_ : TS) _ [some (.ref a), some (.int (i : Nat)), some (.int z), x3, x4, x5, x6, none, none, none] H'
    have e1' := e10.trans e0'
    refine asg_in ⟨_, rfl, _, rfl, z, (i : Int), rfl, by omega, by omega, fun p H2 hp e2 pu => ⟨p, rfl, pu, fun lf H3 xs ks ksok hlf m3 pu3 hxs hks => ?_⟩⟩
    refine g_name ?_
    have e3 : Ex H' H3 := m3.base hp e2
    have dk : Dp K H3 (.ref lf) (.list (ks.map kindD)) := .lst (sq_of hxs) (all2_dpa (fun _ _ h => KiV.dp h) hks)
    show (_ : TS) _ [some (.ref a), some (.int (i : Nat)), some (.int z), some (.ref lf), x4, x5, x6, none, none, none] H3
    refine asg_in (tc_one (bk_lc (K := K) dk ksok.ok.few _ fun Dl H4 e4 d4 b dx hb hdx hne => ⟨b, .ref Dl, ks, dx, rfl, upd_same, ?_, ksok, fun H5 m5 ba => ⟨rfl, ?_⟩⟩))
    · refine dp_ex ?_ d4
      intro c o hc
      rw [upd_ne (ne_of_none hc hb), upd_ne (ne_of_none hc hdx)]
      exact hc
    refine g_name ?_
    have e5 : Ex H4 H5 := m5.base hb fun c o hc => by
      rw [upd_ne (ne_of_none hc hb), upd_ne (ne_of_none hc hdx)]
      exact hc
    have dk5 := dp_ex (e4.trans e5) dk
    show (_ : TS) _ [some (.ref a), some (.int (i : Nat)), some (.int z), some (.ref lf), some (.ref b), x5, x6, none, none, none] H5
    refine asg_in ⟨_, rfl, .ref lf, ks, rfl, dk5, ksok.ok, ba.sg, fun S v H6 le e6 hv => ?_⟩
    refine g_name ?_
    show (_ : TS) _ [some (.ref a), some (.int (i : Nat)), some (.int z), some (.ref lf), some (.ref b), some v, x6, none, none, none] H6
    have e16 : Ex H1 H6 := ((((e1'.trans e3).trans e4).trans e5)).trans e6
    refine s_if (b := !decide (S = [])) (et_is (et_test (ev_neD (d := .list (S.map PyData.str)) (d' := .list []) (ed_var rfl hv) ed_nilL (shaped_strs fun k hk => ba.sg k ((le.mem k).mp hk).1) shaped_nilL)) (by rw [eqv_nilL]; cases S <;> simp)) (fun hb' H7 e7 => ?_) (fun hb' H7 e7 => ?_)
    · obtain ⟨n, S0, rfl⟩ : ∃ n r, S = n :: r := by
        cases S with
        | nil => simp at hb'
        | cons n r => exact ⟨n, r, rfl⟩
      refine s_when (b := !true) (et_not (et_B fun H8 e8 Q8 q8 => ⟨_, rfl, ?_⟩)) (fun h => nomatch h) fun _ H8 e8 => ⟨(e16.trans e7).trans e8, _, _, _, _, _, _, rfl⟩
      refine tc_one ((ed_atL (K := K) (σ := [some (.ref a), some (.int (i : Nat)), some (.int z), some (.ref lf), some (.ref b), some v, x6, none, none, none]) (H := H8) (ta := tVar 5) (i := 0) (d := .str n) (ds := (n :: S0).map PyData.str) (ed_var rfl (dp_ex (e7.trans e8) hv)) rfl) H8 (Ex.refl _) _ fun u H9 e9 hu => ?_)
      rw [dp_str hu]
      exact ⟨b, n, ks, n :: S0, rfl, ba.ex (((e6.trans e7).trans e8).trans e9), le, rfl, fun H10 e => q8 H10 (e9.trans e)⟩
    · have hS : S = [] := by simpa using hb'
      subst hS
      have ne := le.noEnd ksok.ok
      refine asg_in (ep_call (K := K) (B := B) (ev_var (i := 4) rfl) (ba.ex (e6.trans e7)) eda_nil ⟨ne, rfl⟩ H7 (Ex.refl _) _ fun d' v7 H8 hpost e8 hv8 => ?_)
      refine g_name ?_
      obtain ⟨_, m, nm, hm, tp, rfl⟩ := hpost
      show (_ : TS) _ [some (.ref a), some (.int (i : Nat)), some (.int z), some (.ref lf), some (.ref b), some v, some v7, none, none, none] H8
      have hnm : okS nm := ba.sg nm (by
        obtain ⟨j, h1, _⟩ := tp
        exact List.mem_of_getElem? h1)
      have ba8 := ba.ex ((e6.trans e7).trans e8)
      have dk8 := dp_ex ((e6.trans e7).trans e8) dk5
      refine s_when (b := !true || false) (et_or (et_not (et_B (isi_tup (ed_var rfl hv8)))) fun _ => et_is (et_test (ev_neD (d := .tuple [.str (sorts.getD m ""), .str nm]) (d' := .tuple [.str (sorts.getD m ""), .str nm]) (ed_var rfl hv8) (fun H9 e9 Q9 q9 => ⟨_, rfl, _, rfl, b, .ref lf, ks, rfl, ba8.ex e9, dp_ex e9 dk8, ne, fun m' nm' v' H10 hm' tp' e10 hv' => ?_⟩) (shaped_sort hm hnm) (shaped_sort hm hnm))) (by simp [PyData.eqv, PyData.eqvAll])) (fun h => nomatch h) fun _ H9 e9 => ⟨((e16.trans e7).trans e8).trans e9, _, _, _, _, _, _, rfl⟩
      obtain ⟨rfl, rfl⟩ := tp.uniq tp'
      exact q9 _ H10 e10 hv'
  · rintro H1 e1 σ' H' ⟨e, x1, x2, x3, x4, x5, x6, rfl⟩
    exact q H'
end
end Fell

/-! FH1 -/
set_option Elab.async false
set_option linter.all false
set_option maxRecDepth 100000
set_option maxHeartbeats 0
/-! What the top leaves: facts by names. -/
namespace Fell
open PySem PySem.Spec PyProof.Rows L2
open He (ga ma frG asD frG_in relAll relAll_ok ba eqO eqO_ok)
/-- the tuple at a has these items -/
def tupA (K : KK) (a : Addr) (vs : List V) : Bool := match K.lookup a with
  | some ⟨.type c, od, .seq its _, _⟩ => decide (c = "tuple") && (od.isNone && (decide (its.size ≤ sizeLine) && relAll vs its.toList))
  | _ => false
theorem tupA_ok {K : KK} {a : Addr} {vs : List V} (h : tupA K a vs = true) : (∀ H, SqT K H a vs) ∧ ∃ o, K.lookup a = some o ∧ o.cls = .type "tuple" ∧ o.dict = none := by
  unfold tupA at h
  cases q : K.lookup a with
  | none =>
    rw [q] at h
    cases h
  | some o =>
    obtain ⟨oc, od, dt, osl⟩ := o
    rw [q] at h
    cases oc with
    | type c =>
      cases dt with
      | seq its n =>
        obtain ⟨h1, h2⟩ := ba (show (decide (c = "tuple") && (od.isNone && (decide (its.size ≤ sizeLine) && relAll vs its.toList))) = true from h)
        obtain ⟨h0, h2⟩ := ba h2
        obtain ⟨h3, h4⟩ := ba h2
        have ec : c = "tuple" := of_decide_eq_true h1
        have ed : od = none := by cases od <;> simp_all
        subst ec ed
        exact ⟨fun H => .inr ⟨_, its, n, q, rfl, rfl, of_decide_eq_true h3, relAll_ok h4⟩, _, rfl, rfl, rfl⟩
      | _ => cases h
    | _ => cases dt <;> cases h
def itA (K : KK) (a : Addr) (i : Nat) : Addr := match K.lookup a with
  | some ⟨_, _, .seq its _, _⟩ => (match its.toList[i]? with
    | some (.ref b) => b
    | _ => 0)
  | _ => 0
def oexB (K : KK) (C : Addr) : Bool := match K.lookup C with
  | some ⟨.type t, _, .cls cd, sl⟩ => (match cd.mro, sl.toList with
    | .ref C' :: bm, [_, _, _, _, some (.builtin n), _] => decide (t = "type") && (decide (C' = C) && (decide (n = "ValueError.__new__") && (cd.hasDict && (!cd.hasDel && PySem.HandSPX.refsVE bm))))
    | _, _ => false)
  | _ => false
theorem oexB_ok {K : KK} {C : Addr} (q : oexB K C = true) : ∃ nm q N bs bm sn sub ab col dd k0 k1 k2 k3 k5, K.lookup C = some (excClassObj nm q C N bs bm true sn sub ab col dd k0 k1 k2 k3 k5 "ValueError.__new__") ∧ PySem.HandSPX.refsVE bm = true := by
  unfold oexB at q
  split at q
  · rename_i t dd cd sl ho
    split at q
    · rename_i C' bm k0 k1 k2 k3 n k5 hm hs
      obtain ⟨q1, q⟩ := ba q
      obtain ⟨q2, q⟩ := ba q
      obtain ⟨q3, q⟩ := ba q
      obtain ⟨q4, q⟩ := ba q
      obtain ⟨q5, q6⟩ := ba q
      have e1 := of_decide_eq_true q1
      have e2 := of_decide_eq_true q2
      have e3 := of_decide_eq_true q3
      have e5 : cd.hasDel = false := by simpa using q5
      subst e1 e2 e3
      obtain ⟨nm, bs, mro, ns, qn, hd, sn, sub, ab, col, del⟩ := cd
      dsimp only at hm e5 q4
      subst hm e5 q4
      have hsl : sl = #[k0, k1, k2, k3, some (.builtin "ValueError.__new__"), k5] := by
        obtain ⟨l⟩ := sl
        simp only at hs
        rw [hs]
      subst hsl
      exact ⟨nm, qn, ns, bs, bm, sn, sub, ab, col, dd, k0, k1, k2, k3, k5, ho, q6⟩
    · cases q
  · cases q
def notB (K : KK) (x : Str) : Bool := decide (PySem.W.kitOne K (.ref (ga K "Endless")) (.ref (ga K x)) = some false)
def notL : List Str := ["NoLadder", "NoRest", "NoGrove", "NoPlace", "NoBook", "NoKind", "NoRule", "NoNumber", "TooGreat", "NoRise", "NoFall", "NotEndless", "NoWorths", "NoDrop", "NoReach", "TooLong", "NoRow", "NoName"]
def exF : List (KK → Bool) := [
  fun K => tupA K (ga K "SORTS") [.str "number", .str "pair", .str "power", .str "tower"],
  fun K => tupA K (ga K "ONE") [.ref (itA K (ga K "ONE") 0)],
  fun K => tupA K (itA K (ga K "ONE") 0) [.ref (itA K (itA K (ga K "ONE") 0) 0), .int 1],
  fun K => tupA K (itA K (itA K (ga K "ONE") 0) 0) [],
  fun K => oexB K (ga K "Endless"),
  fun K => eqO (PySem.W.findIn K (.ref (ga K "Endless")) "__setattr__") (some (some (.builtin "object.__setattr__"))),
  fun K => decide (PySem.W.subIn K (.ref (ga K "Endless")) (.type "BaseException") = some true),
  fun K => decide (PySem.W.typeIn K (.ref (ga K "Endless")) = some (.type "type")),
  fun K => PySem.W.keepIn K (.ref (ga K "Endless")),
  fun K => eqO (PySem.W.findIn K (.ref (ga K "Endless")) "__init__") (some (some (.ref (ma K (ga K "Endless") "__init__")))),
  fun K => decide (PySem.W.typeIn K (.ref (ma K (ga K "Endless") "__init__")) = some (.type "function")),
  fun K => eqO (PySem.W.findIn K (.ref (ga K "Endless")) "kind") (some none),
  fun K => xfB K (ga K "Endless"),
  fun K => (PySem.W.clsIn K (ga K "Endless")).isSome,
  fun K => eqO (PySem.W.findIn K (.ref (ga K "Endless")) "__class__") (some (some (.builtin "object.__class__"))),
  fun K => eqO (PySem.W.specialIn K (.builtin "object.__class__") "__get__") (some (some (.builtin "getset_descriptor.__get__"))),
  fun K => decide (PySem.W.takesIn K (.builtin "object.__class__") = some true),
  fun K => decide (PySem.W.mroIn K (ga K "Endless") (.type "object") = some true),
  fun K => decide (PySem.W.kitOne K (.ref (ga K "Endless")) (.ref (ga K "Endless")) = some true),
  fun K => decide (PySem.W.kitOne K (.ref (ga K "Endless")) (.type "ValueError") = some true),
  fun K => notL.all (notB K)]
def exB (K : KK) : Bool := exF.all fun f => f K
abbrev AlF : Type := Bool × He.AlD
def obsF (n : Nat) (fa : List He.Fa) (fn : List He.DefD) (g : Addr → Option Obj) : AlF := (exB (frG g (asD g n)), He.obsD fa fn (frG g (asD g n)))
def hookF (n : Nat) (fa : List He.Fa) (fn : List He.DefD) : PySem.W.Hook where
  α := AlF
  obs := fun s => obsF n fa fn s.heap.get?
  val := fun _ => (true, He.valD fn)
  says := fun _ h => ∃ K : PySem.W.Frag, K.In h ∧ He.SaysD fa fn K ∧ exB K = true
  of := fun _ _ e => ⟨_, frG_in, congrArg (fun z : AlF => z.2) e, congrArg (fun z : AlF => z.1) e⟩
  keeps := fun _ _ _ ⟨K, hK, c⟩ k => ⟨K, PySem.W.Frag.In.keeps hK k, c⟩
theorem obsF_eq {n : Nat} {fa : List He.Fa} {fn : List He.DefD} {g : Addr → Option Obj} {s : Shared} (h : ∀ a, g a = s.heap.get? a) : obsF n fa fn g = (hookF n fa fn).obs s := by
  have e : g = s.heap.get? := funext h
  rw [e] <;> rfl
def fn0 : List He.DefD := [⟨("spots", none), "spots", "spots", defArgs (top 22), defBody (top 22), defScope (top 22), [], []⟩, ⟨("steps_of", none), "steps_of", "steps_of", defArgs (top 23), defBody (top 23), defScope (top 23), [], []⟩, ⟨("leads", none), "leads", "leads", defArgs (top 24), defBody (top 24), defScope (top 24), [], []⟩, ⟨("endless_kinds", none), "endless_kinds", "endless_kinds", defArgs (top 25), defBody (top 25), defScope (top 25), [], []⟩, ⟨("is_name", none), "is_name", "is_name", defArgs (top 29), defBody (top 29), defScope (top 29), [], []⟩, ⟨("is_whole", none), "is_whole", "is_whole", defArgs (top 30), defBody (top 30), defScope (top 30), [], []⟩, ⟨("is_less", none), "is_less", "is_less", defArgs (top 33), defBody (top 33), defScope (top 33), [], []⟩, ⟨("behind", none), "behind", "behind", defArgs (top 35), defBody (top 35), defScope (top 35), [], []⟩, ⟨("both", none), "both", "both", defArgs (top 36), defBody (top 36), defScope (top 36), [], []⟩, ⟨("many_of", none), "many_of", "many_of", defArgs (top 37), defBody (top 37), defScope (top 37), [], []⟩, ⟨("power", none), "power", "power", defArgs (top 39), defBody (top 39), defScope (top 39), [], []⟩, ⟨("above", none), "above", "above", defArgs (top 40), defBody (top 40), defScope (top 40), [], []⟩, ⟨("spread", none), "spread", "spread", defArgs (top 41), defBody (top 41), defScope (top 41), [], []⟩, ⟨("kinds_in", none), "kinds_in", "kinds_in", defArgs (top 43), defBody (top 43), defScope (top 43), [], []⟩, ⟨("look_at_kind", none), "look_at_kind", "look_at_kind", defArgs (top 44), defBody (top 44), defScope (top 44), [], []⟩, ⟨("look_at_ends", none), "look_at_ends", "look_at_ends", defArgs (top 45), defBody (top 45), defScope (top 45), [], []⟩, ⟨("weighed_tree", none), "weighed_tree", "weighed_tree", defArgs (top 47), defBody (top 47), defScope (top 47), [], []⟩, ⟨("weighed", none), "weighed", "weighed", defArgs (top 48), defBody (top 48), defScope (top 48), [], []⟩, ⟨("above_rule", none), "above_rule", "above_rule", defArgs (top 50), defBody (top 50), defScope (top 50), [], []⟩, ⟨("greatest_rule", none), "greatest_rule", "greatest_rule", defArgs (top 51), defBody (top 51), defScope (top 51), [], []⟩, ⟨("own_ranks", none), "own_ranks", "own_ranks", defArgs (top 52), defBody (top 52), defScope (top 52), [], []⟩, ⟨("own_rank", none), "own_rank", "own_rank", defArgs (top 53), defBody (top 53), defScope (top 53), [], []⟩, ⟨("is_counted", none), "is_counted", "is_counted", defArgs (top 56), defBody (top 56), defScope (top 56), [], []⟩, ⟨("sort_of", none), "sort_of", "sort_of", defArgs (top 57), defBody (top 57), defScope (top 57), [], []⟩, ⟨("sort_needed", none), "sort_needed", "sort_needed", defArgs (top 58), defBody (top 58), defScope (top 58), [], []⟩, ⟨("is_tree", none), "is_tree", "is_tree", defArgs (top 60), defBody (top 60), defScope (top 60), [], []⟩, ⟨("is_pair", none), "is_pair", "is_pair", defArgs (top 61), defBody (top 61), defScope (top 61), [], []⟩, ⟨("is_grove", none), "is_grove", "is_grove", defArgs (top 62), defBody (top 62), defScope (top 62), [], []⟩, ⟨("parts_of", none), "parts_of", "parts_of", defArgs (top 63), defBody (top 63), defScope (top 63), [], []⟩, ⟨("names_told", none), "names_told", "names_told", defArgs (top 69), defBody (top 69), defScope (top 69), [], []⟩]
def fn1 : List He.DefD := [⟨("fits_in", none), "fits_in", "fits_in", defArgs (top 70), defBody (top 70), defScope (top 70), [], []⟩, ⟨("is_rule", none), "is_rule", "is_rule", defArgs (top 71), defBody (top 71), defScope (top 71), [], []⟩, ⟨("are_rules", none), "are_rules", "are_rules", defArgs (top 72), defBody (top 72), defScope (top 72), [], []⟩, ⟨("_law_at", none), "_law_at", "_law_at", defArgs (top 75), defBody (top 75), defScope (top 75), [], []⟩, ⟨("_law_purse", none), "_law_purse", "_law_purse", defArgs (top 76), defBody (top 76), defScope (top 76), [], []⟩, ⟨("_law_draw", none), "_law_draw", "_law_draw", defArgs (top 77), defBody (top 77), defScope (top 77), [], []⟩, ⟨("_law_names", none), "_law_names", "_law_names", defArgs (top 78), defBody (top 78), defScope (top 78), [], []⟩, ⟨("_law_grove", none), "_law_grove", "_law_grove", defArgs (top 79), defBody (top 79), defScope (top 79), [], []⟩, ⟨("_law_planted", none), "_law_planted", "_law_planted", defArgs (top 80), defBody (top 80), defScope (top 80), [], []⟩, ⟨("_law_drawn", none), "_law_drawn", "_law_drawn", defArgs (top 81), defBody (top 81), defScope (top 81), [], []⟩, ⟨("_law_kinds", none), "_law_kinds", "_law_kinds", defArgs (top 82), defBody (top 82), defScope (top 82), [], []⟩, ⟨("_law_stands", none), "_law_stands", "_law_stands", defArgs (top 83), defBody (top 83), defScope (top 83), [], []⟩, ⟨("_law_reached", none), "_law_reached", "_law_reached", defArgs (top 84), defBody (top 84), defScope (top 84), [], []⟩, ⟨("_law_endless", none), "_law_endless", "_law_endless", defArgs (top 85), defBody (top 85), defScope (top 85), [], []⟩, ⟨("_law_word", none), "_law_word", "_law_word", defArgs (top 86), defBody (top 86), defScope (top 86), [], []⟩, ⟨("_law_refused", none), "_law_refused", "_law_refused", defArgs (top 87), defBody (top 87), defScope (top 87), [], []⟩, ⟨("_law_needed", none), "_law_needed", "_law_needed", defArgs (top 88), defBody (top 88), defScope (top 88), [], []⟩, ⟨("law", none), "law", "law", defArgs (top 89), defBody (top 89), defScope (top 89), [], []⟩, ⟨("Book", some "__init__"), "__init__", "Book.__init__", defArgs (inClass (top 73) 0), defBody (inClass (top 73) 0), defScope (inClass (top 73) 0), [], []⟩, ⟨("Book", some "names"), "names", "Book.names", defArgs (inClass (top 73) 1), defBody (inClass (top 73) 1), defScope (inClass (top 73) 1), [], []⟩, ⟨("Book", some "spreads"), "spreads", "Book.spreads", defArgs (inClass (top 73) 2), defBody (inClass (top 73) 2), defScope (inClass (top 73) 2), [], []⟩, ⟨("Book", some "rules"), "rules", "Book.rules", defArgs (inClass (top 73) 3), defBody (inClass (top 73) 3), defScope (inClass (top 73) 3), [], []⟩, ⟨("Book", some "look_for"), "look_for", "Book.look_for", defArgs (inClass (top 73) 4), defBody (inClass (top 73) 4), defScope (inClass (top 73) 4), [], []⟩, ⟨("Endless", some "__init__"), "__init__", "Endless.__init__", defArgs (inClass (top 13) 0), defBody (inClass (top 13) 0), defScope (inClass (top 13) 0), [], []⟩]
def fn : List He.DefD := fn0 ++ fn1
def fa0 : List He.Fa := [.glo "spots", .glo "steps_of", .glo "leads", .glo "endless_kinds", .glo "is_name", .glo "is_whole", .glo "is_less", .glo "behind", .glo "both", .glo "many_of", .glo "power", .glo "above", .glo "spread", .glo "kinds_in", .glo "look_at_kind", .glo "look_at_ends", .glo "weighed_tree", .glo "weighed", .glo "above_rule", .glo "greatest_rule", .glo "own_ranks", .glo "own_rank", .glo "is_counted", .glo "sort_of", .glo "sort_needed", .glo "is_tree", .glo "is_pair", .glo "is_grove", .glo "parts_of", .glo "names_told"]
def fa1 : List He.Fa := [.glo "fits_in", .glo "is_rule", .glo "are_rules", .glo "_law_at", .glo "_law_purse", .glo "_law_draw", .glo "_law_names", .glo "_law_grove", .glo "_law_planted", .glo "_law_drawn", .glo "_law_kinds", .glo "_law_stands", .glo "_law_reached", .glo "_law_endless", .glo "_law_word", .glo "_law_refused", .glo "_law_needed", .glo "law", .free "len", .free "sorted", .free "sum", .free "all", .free "any", .free "max", .free "abs", .free "isinstance", .free "tuple", .free "list", .free "set", .free "int"]
def fa2 : List He.Fa := [.free "bool", .free "str", .free "range", .free "zip", .free "enumerate", .free "ValueError", .glo "ONE", .glo "SORTS", .glo "Book", .glo "FellError", .glo "Endless", .glo "NoLadder", .glo "NoRest", .glo "NoGrove", .glo "NoPlace", .glo "NoBook", .glo "NoKind", .glo "NoRule", .glo "NoNumber", .glo "TooGreat", .glo "NoRise", .glo "NoFall", .glo "NotEndless", .glo "NoWorths", .glo "NoDrop", .glo "NoReach", .glo "TooLong", .glo "NoRow", .glo "NoName", .str "LETTERS" "abcdefghijklmnopqrstuvwxyz"]
def fa3 : List He.Fa := [.int "MOST_LETTERS" 8, .int "MOST_KINDS" 8, .int "MOST_RULES" 4, .int "MOST_PARTS" 4, .int "MOST_MANY" 1000000000, .cls "Book", .mkr "Book", .meth "Book" "names", .meth "Book" "spreads", .meth "Book" "rules", .meth "Book" "look_for", .noat "Book" "told", .noat "Book" "wide", .noat "Book" "ways", .exm "Endless" "FellError" true]
def fa : List He.Fa := fa0 ++ fa1 ++ fa2 ++ fa3
def loose0 : List Str := ["FellError", "NoLadder", "NoRest", "NoGrove", "NoPlace", "NoBook", "NoKind", "NoRule", "NoNumber", "TooGreat", "NoRise", "NoFall", "Endless", "NotEndless", "NoWorths", "NoDrop", "NoReach", "TooLong", "NoRow", "NoName", "spots", "steps_of", "leads", "endless_kinds", "LETTERS", "MOST_LETTERS", "is_name", "is_whole", "ONE", "is_less"]
def loose1 : List Str := ["behind", "both", "many_of", "power", "above", "spread", "kinds_in", "look_at_kind", "look_at_ends", "weighed_tree", "weighed", "above_rule", "greatest_rule", "own_ranks", "own_rank", "SORTS", "is_counted", "sort_of", "sort_needed", "is_tree", "is_pair", "is_grove", "parts_of", "MOST_KINDS", "MOST_RULES", "MOST_PARTS", "MOST_MANY", "names_told", "fits_in", "is_rule"]
def loose2 : List Str := ["are_rules", "Book", "_law_at", "_law_purse", "_law_draw", "_law_names", "_law_grove", "_law_planted", "_law_drawn", "_law_kinds", "_law_stands", "_law_reached", "_law_endless", "_law_word", "_law_refused", "_law_needed"]
def loose : List Str := loose0 ++ loose1 ++ loose2
abbrev R : PySem.W.OpenRow := PySem.W.OpenLaw.row PySem.Challenge.rw_felltimber_k72_whole_sorts_needed
abbrev hk : PySem.W.Hook := hookF 5 fa fn
def ob (s : PySem.W.SharedT) : AlF := obsF 5 fa fn (HandSHeadRun.getT s)
theorem ob_eq (s : PySem.W.SharedT) : ob s = hk.obs s.abs := obsF_eq (HandSHeadRun.getT_eq s)
end Fell

/-! FH2 -/
set_option Elab.async false
set_option linter.all false
set_option maxRecDepth 100000
set_option maxHeartbeats 0
namespace Fell
open PySem PySem.Spec PyProof.Rows L2
theorem run (w : World) : HandSHeadRun.RunEq R (PySem.W.view R.prog [89]) hk ob 20000 loose w := by
  intro os
  kernel_rfl
end Fell

/-! FH3 -/
set_option Elab.async false
set_option linter.all false
set_option maxRecDepth 100000
set_option maxHeartbeats 0
namespace Fell
open PySem PySem.Spec PyProof.Rows L2
open He (ga ma glo_ok free_ok int_ok str_ok cls_ok mkr_ok meth_ok noat_ok exm_ok eqO_ok)
section
variable {K : KK} {h : Heap} {mg : Str → Option Value}
theorem exF_at (c : exB K = true) (i : Nat) {f : KK → Bool} (hf : exF[i]? = some f := by rfl) : f K = true := List.all_eq_true.mp c f (List.mem_of_getElem? hf)
theorem not_of (X : K.In h) (G : h.Ns mainGlobals mg) (c : exB K = true) {x : Str} (hx : x ∈ notL) (g : mg x = some (.ref (ga K x))) : NotOf K mg (ga K "Endless") x := ⟨_, g, of_decide_eq_true (List.all_eq_true.mp (exF_at c 20) x hx)⟩
theorem txt_of (X : K.In h) (G : h.Ns mainGlobals mg) (c : He.SaysD fa fn K) (e : exB K = true) : Txt K mg (ga K "ONE") (ga K "SORTS") (ga K "Book") (ma K (ga K "Book") "__init__") where
  a_spots := by
    obtain ⟨fd, F⟩ := c.def_ 0 rfl
    exact ⟨_, fd, F, glo_ok X G (c.fact 0 (f := .glo "spots") rfl)⟩
  a_steps_of := by
    obtain ⟨fd, F⟩ := c.def_ 1 rfl
    exact ⟨_, fd, F, glo_ok X G (c.fact 1 (f := .glo "steps_of") rfl)⟩
  a_leads := by
    obtain ⟨fd, F⟩ := c.def_ 2 rfl
    exact ⟨_, fd, F, glo_ok X G (c.fact 2 (f := .glo "leads") rfl)⟩
  a_endless_kinds := by
    obtain ⟨fd, F⟩ := c.def_ 3 rfl
    exact ⟨_, fd, F, glo_ok X G (c.fact 3 (f := .glo "endless_kinds") rfl)⟩
  a_is_name := by
    obtain ⟨fd, F⟩ := c.def_ 4 rfl
    exact ⟨_, fd, F, glo_ok X G (c.fact 4 (f := .glo "is_name") rfl)⟩
  a_is_whole := by
    obtain ⟨fd, F⟩ := c.def_ 5 rfl
    exact ⟨_, fd, F, glo_ok X G (c.fact 5 (f := .glo "is_whole") rfl)⟩
  a_is_less := by
    obtain ⟨fd, F⟩ := c.def_ 6 rfl
    exact ⟨_, fd, F, glo_ok X G (c.fact 6 (f := .glo "is_less") rfl)⟩
  a_behind := by
    obtain ⟨fd, F⟩ := c.def_ 7 rfl
    exact ⟨_, fd, F, glo_ok X G (c.fact 7 (f := .glo "behind") rfl)⟩
  a_both := by
    obtain ⟨fd, F⟩ := c.def_ 8 rfl
    exact ⟨_, fd, F, glo_ok X G (c.fact 8 (f := .glo "both") rfl)⟩
  a_many_of := by
    obtain ⟨fd, F⟩ := c.def_ 9 rfl
    exact ⟨_, fd, F, glo_ok X G (c.fact 9 (f := .glo "many_of") rfl)⟩
  a_power := by
    obtain ⟨fd, F⟩ := c.def_ 10 rfl
    exact ⟨_, fd, F, glo_ok X G (c.fact 10 (f := .glo "power") rfl)⟩
  a_above := by
    obtain ⟨fd, F⟩ := c.def_ 11 rfl
    exact ⟨_, fd, F, glo_ok X G (c.fact 11 (f := .glo "above") rfl)⟩
  a_spread := by
    obtain ⟨fd, F⟩ := c.def_ 12 rfl
    exact ⟨_, fd, F, glo_ok X G (c.fact 12 (f := .glo "spread") rfl)⟩
  a_kinds_in := by
    obtain ⟨fd, F⟩ := c.def_ 13 rfl
    exact ⟨_, fd, F, glo_ok X G (c.fact 13 (f := .glo "kinds_in") rfl)⟩
  a_look_at_kind := by
    obtain ⟨fd, F⟩ := c.def_ 14 rfl
    exact ⟨_, fd, F, glo_ok X G (c.fact 14 (f := .glo "look_at_kind") rfl)⟩
  a_look_at_ends := by
    obtain ⟨fd, F⟩ := c.def_ 15 rfl
    exact ⟨_, fd, F, glo_ok X G (c.fact 15 (f := .glo "look_at_ends") rfl)⟩
  a_weighed_tree := by
    obtain ⟨fd, F⟩ := c.def_ 16 rfl
    exact ⟨_, fd, F, glo_ok X G (c.fact 16 (f := .glo "weighed_tree") rfl)⟩
  a_weighed := by
    obtain ⟨fd, F⟩ := c.def_ 17 rfl
    exact ⟨_, fd, F, glo_ok X G (c.fact 17 (f := .glo "weighed") rfl)⟩
  a_above_rule := by
    obtain ⟨fd, F⟩ := c.def_ 18 rfl
    exact ⟨_, fd, F, glo_ok X G (c.fact 18 (f := .glo "above_rule") rfl)⟩
  a_greatest_rule := by
    obtain ⟨fd, F⟩ := c.def_ 19 rfl
    exact ⟨_, fd, F, glo_ok X G (c.fact 19 (f := .glo "greatest_rule") rfl)⟩
  a_own_ranks := by
    obtain ⟨fd, F⟩ := c.def_ 20 rfl
    exact ⟨_, fd, F, glo_ok X G (c.fact 20 (f := .glo "own_ranks") rfl)⟩
  a_own_rank := by
    obtain ⟨fd, F⟩ := c.def_ 21 rfl
    exact ⟨_, fd, F, glo_ok X G (c.fact 21 (f := .glo "own_rank") rfl)⟩
  a_is_counted := by
    obtain ⟨fd, F⟩ := c.def_ 22 rfl
    exact ⟨_, fd, F, glo_ok X G (c.fact 22 (f := .glo "is_counted") rfl)⟩
  a_sort_of := by
    obtain ⟨fd, F⟩ := c.def_ 23 rfl
    exact ⟨_, fd, F, glo_ok X G (c.fact 23 (f := .glo "sort_of") rfl)⟩
  a_sort_needed := by
    obtain ⟨fd, F⟩ := c.def_ 24 rfl
    exact ⟨_, fd, F, glo_ok X G (c.fact 24 (f := .glo "sort_needed") rfl)⟩
  a_is_tree := by
    obtain ⟨fd, F⟩ := c.def_ 25 rfl
    exact ⟨_, fd, F, glo_ok X G (c.fact 25 (f := .glo "is_tree") rfl)⟩
  a_is_pair := by
    obtain ⟨fd, F⟩ := c.def_ 26 rfl
    exact ⟨_, fd, F, glo_ok X G (c.fact 26 (f := .glo "is_pair") rfl)⟩
  a_is_grove := by
    obtain ⟨fd, F⟩ := c.def_ 27 rfl
    exact ⟨_, fd, F, glo_ok X G (c.fact 27 (f := .glo "is_grove") rfl)⟩
  a_parts_of := by
    obtain ⟨fd, F⟩ := c.def_ 28 rfl
    exact ⟨_, fd, F, glo_ok X G (c.fact 28 (f := .glo "parts_of") rfl)⟩
  a_names_told := by
    obtain ⟨fd, F⟩ := c.def_ 29 rfl
    exact ⟨_, fd, F, glo_ok X G (c.fact 29 (f := .glo "names_told") rfl)⟩
  a_fits_in := by
    obtain ⟨fd, F⟩ := c.def_ 30 rfl
    exact ⟨_, fd, F, glo_ok X G (c.fact 30 (f := .glo "fits_in") rfl)⟩
  a_is_rule := by
    obtain ⟨fd, F⟩ := c.def_ 31 rfl
    exact ⟨_, fd, F, glo_ok X G (c.fact 31 (f := .glo "is_rule") rfl)⟩
  a_are_rules := by
    obtain ⟨fd, F⟩ := c.def_ 32 rfl
    exact ⟨_, fd, F, glo_ok X G (c.fact 32 (f := .glo "are_rules") rfl)⟩
  a__law_at := by
    obtain ⟨fd, F⟩ := c.def_ 33 rfl
    exact ⟨_, fd, F, glo_ok X G (c.fact 33 (f := .glo "_law_at") rfl)⟩
  a__law_purse := by
    obtain ⟨fd, F⟩ := c.def_ 34 rfl
    exact ⟨_, fd, F, glo_ok X G (c.fact 34 (f := .glo "_law_purse") rfl)⟩
  a__law_draw := by
    obtain ⟨fd, F⟩ := c.def_ 35 rfl
    exact ⟨_, fd, F, glo_ok X G (c.fact 35 (f := .glo "_law_draw") rfl)⟩
  a__law_names := by
    obtain ⟨fd, F⟩ := c.def_ 36 rfl
    exact ⟨_, fd, F, glo_ok X G (c.fact 36 (f := .glo "_law_names") rfl)⟩
  a__law_grove := by
    obtain ⟨fd, F⟩ := c.def_ 37 rfl
    exact ⟨_, fd, F, glo_ok X G (c.fact 37 (f := .glo "_law_grove") rfl)⟩
  a__law_planted := by
    obtain ⟨fd, F⟩ := c.def_ 38 rfl
    exact ⟨_, fd, F, glo_ok X G (c.fact 38 (f := .glo "_law_planted") rfl)⟩
  a__law_drawn := by
    obtain ⟨fd, F⟩ := c.def_ 39 rfl
    exact ⟨_, fd, F, glo_ok X G (c.fact 39 (f := .glo "_law_drawn") rfl)⟩
  a__law_kinds := by
    obtain ⟨fd, F⟩ := c.def_ 40 rfl
    exact ⟨_, fd, F, glo_ok X G (c.fact 40 (f := .glo "_law_kinds") rfl)⟩
  a__law_stands := by
    obtain ⟨fd, F⟩ := c.def_ 41 rfl
    exact ⟨_, fd, F, glo_ok X G (c.fact 41 (f := .glo "_law_stands") rfl)⟩
  a__law_reached := by
    obtain ⟨fd, F⟩ := c.def_ 42 rfl
    exact ⟨_, fd, F, glo_ok X G (c.fact 42 (f := .glo "_law_reached") rfl)⟩
  a__law_endless := by
    obtain ⟨fd, F⟩ := c.def_ 43 rfl
    exact ⟨_, fd, F, glo_ok X G (c.fact 43 (f := .glo "_law_endless") rfl)⟩
  a__law_word := by
    obtain ⟨fd, F⟩ := c.def_ 44 rfl
    exact ⟨_, fd, F, glo_ok X G (c.fact 44 (f := .glo "_law_word") rfl)⟩
  a__law_refused := by
    obtain ⟨fd, F⟩ := c.def_ 45 rfl
    exact ⟨_, fd, F, glo_ok X G (c.fact 45 (f := .glo "_law_refused") rfl)⟩
  a__law_needed := by
    obtain ⟨fd, F⟩ := c.def_ 46 rfl
    exact ⟨_, fd, F, glo_ok X G (c.fact 46 (f := .glo "_law_needed") rfl)⟩
  a_law := by
    obtain ⟨fd, F⟩ := c.def_ 47 rfl
    exact ⟨_, fd, F, glo_ok X G (c.fact 47 (f := .glo "law") rfl)⟩
  n_len := free_ok X G (c.fact 48 (f := .free "len") rfl)
  n_sorted := free_ok X G (c.fact 49 (f := .free "sorted") rfl)
  n_sum := free_ok X G (c.fact 50 (f := .free "sum") rfl)
  n_all := free_ok X G (c.fact 51 (f := .free "all") rfl)
  n_any := free_ok X G (c.fact 52 (f := .free "any") rfl)
  n_max := free_ok X G (c.fact 53 (f := .free "max") rfl)
  n_abs := free_ok X G (c.fact 54 (f := .free "abs") rfl)
  n_isinstance := free_ok X G (c.fact 55 (f := .free "isinstance") rfl)
  n_tuple := free_ok X G (c.fact 56 (f := .free "tuple") rfl)
  n_list := free_ok X G (c.fact 57 (f := .free "list") rfl)
  n_set := free_ok X G (c.fact 58 (f := .free "set") rfl)
  n_int := free_ok X G (c.fact 59 (f := .free "int") rfl)
  n_bool := free_ok X G (c.fact 60 (f := .free "bool") rfl)
  n_str := free_ok X G (c.fact 61 (f := .free "str") rfl)
  n_range := free_ok X G (c.fact 62 (f := .free "range") rfl)
  n_zip := free_ok X G (c.fact 63 (f := .free "zip") rfl)
  n_enumerate := free_ok X G (c.fact 64 (f := .free "enumerate") rfl)
  g_ONE := ⟨_, glo_ok X G (c.fact 66 (f := .glo "ONE") rfl), rfl⟩
  d_ONE := fun H => .tup ((tupA_ok (exF_at e 1)).1 H) (.cons (.tup ((tupA_ok (exF_at e 2)).1 H) (.cons (.tup ((tupA_ok (exF_at e 3)).1 H) .nil) (.cons (.int 1) .nil))) .nil)
  g_SORTS := ⟨_, glo_ok X G (c.fact 67 (f := .glo "SORTS") rfl), rfl⟩
  d_SORTS := fun H => (tupA_ok (exF_at e 0)).1 H
  t_SORTS := (tupA_ok (exF_at e 0)).2
  g_LETTERS := by
    obtain ⟨t, ht⟩ := str_ok X G (c.fact 89 (f := .str "LETTERS" "abcdefghijklmnopqrstuvwxyz") rfl)
    exact ⟨_, ht, _, rfl⟩
  g_MOST_LETTERS := by
    obtain ⟨t, ht⟩ := int_ok X G (c.fact 90 (f := .int "MOST_LETTERS" 8) rfl)
    exact ⟨_, ht, _, rfl⟩
  g_MOST_KINDS := by
    obtain ⟨t, ht⟩ := int_ok X G (c.fact 91 (f := .int "MOST_KINDS" 8) rfl)
    exact ⟨_, ht, _, rfl⟩
  g_MOST_RULES := by
    obtain ⟨t, ht⟩ := int_ok X G (c.fact 92 (f := .int "MOST_RULES" 4) rfl)
    exact ⟨_, ht, _, rfl⟩
  g_MOST_PARTS := by
    obtain ⟨t, ht⟩ := int_ok X G (c.fact 93 (f := .int "MOST_PARTS" 4) rfl)
    exact ⟨_, ht, _, rfl⟩
  g_MOST_MANY := by
    obtain ⟨t, ht⟩ := int_ok X G (c.fact 94 (f := .int "MOST_MANY" 1000000000) rfl)
    exact ⟨_, ht, _, rfl⟩
  cB := cls_ok (c.fact 95 (f := .cls "Book") rfl)
  gB := glo_ok X G (c.fact 68 (f := .glo "Book") rfl)
  kB := mkr_ok (c.fact 96 (f := .mkr "Book") rfl)
  i_Book := c.def_ 48 rfl
  m_names := by
    obtain ⟨fd, F⟩ := c.def_ 49 rfl
    exact ⟨_, fd, F, meth_ok (c.fact 97 (f := .meth "Book" "names") rfl)⟩
  m_spreads := by
    obtain ⟨fd, F⟩ := c.def_ 50 rfl
    exact ⟨_, fd, F, meth_ok (c.fact 98 (f := .meth "Book" "spreads") rfl)⟩
  m_rules := by
    obtain ⟨fd, F⟩ := c.def_ 51 rfl
    exact ⟨_, fd, F, meth_ok (c.fact 99 (f := .meth "Book" "rules") rfl)⟩
  m_look_for := by
    obtain ⟨fd, F⟩ := c.def_ 52 rfl
    exact ⟨_, fd, F, meth_ok (c.fact 100 (f := .meth "Book" "look_for") rfl)⟩
  f_told := noat_ok (c.fact 101 (f := .noat "Book" "told") rfl)
  f_wide := noat_ok (c.fact 102 (f := .noat "Book" "wide") rfl)
  f_ways := noat_ok (c.fact 103 (f := .noat "Book" "ways") rfl)
theorem txtE_of (X : K.In h) (G : h.Ns mainGlobals mg) (c : He.SaysD fa fn K) (e : exB K = true) : TxtE K mg (ga K "FellError") (ga K "Endless") (ma K (ga K "Endless") "__init__") where
  gF := glo_ok X G (c.fact 69 (f := .glo "FellError") rfl)
  gE := glo_ok X G (c.fact 70 (f := .glo "Endless") rfl)
  oE := ⟨oexB_ok (exF_at e 4), eqO_ok (exF_at e 5), of_decide_eq_true (exF_at e 6), of_decide_eq_true (exF_at e 7), exF_at e 8⟩
  iI := eqO_ok (exF_at e 9)
  tI := of_decide_eq_true (exF_at e 10)
  noK := eqO_ok (exF_at e 11)
  xE := xfB_ok (exF_at e 12)
  isE := ⟨exF_at e 13, (xfB_ok (exF_at e 12)).ga, (xfB_ok (exF_at e 12)).gg, (xfB_ok (exF_at e 12)).exC, eqO_ok (exF_at e 14), eqO_ok (exF_at e 15), of_decide_eq_true (exF_at e 16), of_decide_eq_true (exF_at e 17)⟩
  i_E := c.def_ 53 rfl
  exm := exm_ok (c.fact 104 (f := .exm "Endless" "FellError" true) rfl)
  kE := of_decide_eq_true (exF_at e 18)
  kV := of_decide_eq_true (exF_at e 19)
  n_V := free_ok X G (c.fact 65 (f := .free "ValueError") rfl)
  k_NoLadder := not_of X G e (by decide) (glo_ok X G (c.fact 71 (f := .glo "NoLadder") rfl))
  k_NoRest := not_of X G e (by decide) (glo_ok X G (c.fact 72 (f := .glo "NoRest") rfl))
  k_NoGrove := not_of X G e (by decide) (glo_ok X G (c.fact 73 (f := .glo "NoGrove") rfl))
  k_NoPlace := not_of X G e (by decide) (glo_ok X G (c.fact 74 (f := .glo "NoPlace") rfl))
  k_NoBook := not_of X G e (by decide) (glo_ok X G (c.fact 75 (f := .glo "NoBook") rfl))
  k_NoKind := not_of X G e (by decide) (glo_ok X G (c.fact 76 (f := .glo "NoKind") rfl))
  k_NoRule := not_of X G e (by decide) (glo_ok X G (c.fact 77 (f := .glo "NoRule") rfl))
  k_NoNumber := not_of X G e (by decide) (glo_ok X G (c.fact 78 (f := .glo "NoNumber") rfl))
  k_TooGreat := not_of X G e (by decide) (glo_ok X G (c.fact 79 (f := .glo "TooGreat") rfl))
  k_NoRise := not_of X G e (by decide) (glo_ok X G (c.fact 80 (f := .glo "NoRise") rfl))
  k_NoFall := not_of X G e (by decide) (glo_ok X G (c.fact 81 (f := .glo "NoFall") rfl))
  k_NotEndless := not_of X G e (by decide) (glo_ok X G (c.fact 82 (f := .glo "NotEndless") rfl))
  k_NoWorths := not_of X G e (by decide) (glo_ok X G (c.fact 83 (f := .glo "NoWorths") rfl))
  k_NoDrop := not_of X G e (by decide) (glo_ok X G (c.fact 84 (f := .glo "NoDrop") rfl))
  k_NoReach := not_of X G e (by decide) (glo_ok X G (c.fact 85 (f := .glo "NoReach") rfl))
  k_TooLong := not_of X G e (by decide) (glo_ok X G (c.fact 86 (f := .glo "TooLong") rfl))
  k_NoRow := not_of X G e (by decide) (glo_ok X G (c.fact 87 (f := .glo "NoRow") rfl))
  k_NoName := not_of X G e (by decide) (glo_ok X G (c.fact 88 (f := .glo "NoName") rfl))
end
end Fell

/-! FZ -/
set_option Elab.async false
set_option linter.all false
set_option maxRecDepth 100000
set_option maxHeartbeats 0
namespace Fell
open PySem PySem.Spec PyProof.Rows L2
theorem facts {P : Program} {w : World} {K : KK} {h : Heap} {mg : Str → Option Value} {f : Addr} (X : K.In h) (G : h.Ns mainGlobals mg) (hfa : mg ("law" : Str) = some (.ref f)) (c : He.SaysD fa fn K) (e : exB K = true) :
    ∃ fd : FuncData, (∀ (s : Shared) (v : Value), BindsTo s fd ⟨[v], []⟩ [("_law_script", v)]) ∧ ∀ base : Heap, K.In base → base.Ns mainGlobals mg → FnOk P w K mg base CX0 39 f fd ["_law_script"] (spLaw K) := by
  obtain ⟨fd, F⟩ := c.def_ 47 rfl
  have e' := hfa.symm.trans (He.glo_ok X G (c.fact 47 (f := .glo "law") rfl))
  cases e'
  have b := FunD.bindsA (ps := ["_law_script"]) F fun _ _ _ _ _ _ us hl => match us, hl with | [_], _ => rfl
  exact ⟨fd, fun s v => b s [v] rfl, fun base _ _ => ok_law F (txt_of X G c e) (txtE_of X G c e)⟩
end Fell
open PySem PySem.W PySem.Calls PyProof.Rows
theorem PySem.Challenge.cw_felltimber_k72_whole_sorts_needed_holds : PySem.Challenge.rw_felltimber_k72_whole_sorts_needed.Holds := by
  w_on; o_law
  refine HandSHeadRun.head_any (r := OpenLaw.row PySem.Challenge.rw_felltimber_k72_whole_sorts_needed) (q := view (OpenLaw.row PySem.Challenge.rw_felltimber_k72_whole_sorts_needed).prog [89]) (H := Fell.hk) (ob := Fell.ob) (M := 20000) (loose := Fell.loose) (d := HandSHeadRun.topDef (OpenLaw.row PySem.Challenge.rw_felltimber_k72_whole_sorts_needed).prog 89) (kwd := []) Fell.ob_eq
    (by kernel_rfl) (fun s => by kernel_rfl) Fell.run (by kernel_rfl) (by kernel_rfl) (by kernel_rfl) (by rfl) (by first | assumption | decide +kernel) (by decide +kernel) ⟨rfl, rfl, rfl, rfl, rfl, by decide +kernel⟩ ?hw ?hc
  case hw => w_witness2
  case hc =>
    refine L2.walk_ofE (l := PySem.Challenge.rw_felltimber_k72_whole_sorts_needed) (n := 63) (k := 39) (x := "_law_script") (CX := L2.CX0) rfl (by decide) (by kernel_rfl) ⟨rfl, by decide, by decide⟩ ?F (fun _ _ _ _ z => z)
    intro w mg fa h Y G hmg0
    obtain ⟨K, KX, c, e1⟩ := Y
    have hmg : mg ("law" : PySem.Str) = some (.ref fa) := by
      have e : (HandSHeadRun.topDef (OpenLaw.row PySem.Challenge.rw_felltimber_k72_whole_sorts_needed).prog 89).name = ("law" : PySem.Str) := by kernel_rfl
      rw [← e]
      exact hmg0
    obtain ⟨fd, hb, hF⟩ := Fell.facts (P := (PySem.Challenge.rw_felltimber_k72_whole_sorts_needed).prog) (w := w) KX G hmg c e1
    exact ⟨K, fd, Fell.spLaw K, KX, hb, fun H a ns hl _ hS => ⟨a, ns, rfl, hS, fun _ => rfl⟩, hF⟩
