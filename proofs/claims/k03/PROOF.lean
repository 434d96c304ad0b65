import PyProof.Rows.All
import Wide.All
import OpenK.AllK
import Wide.FinOn
import HandS.ForMost
import HandS.ForExc
import HandS.TupSets
import HandS.TupLe
import HandS.TupAny
import HandS.TupLen
import HandS.DictTup
import HandS.DictComp
import HandS.IsInst
import HandS.ExcIs
import HandS.Style
import HandS.Defaults
import HandS.Codes
import HandS.SortRule
import HandS.SortInts
import HandS.Walk
import KE.KDictWalk
import KE.KDictCopyH
import KE.GoesEnum
import KE.GoesMore
import PyProof.SetRoads
import KE.KDictKeyed
import KE.KDictPairs
import PySem.Challenge.RW_streetpapers_k03_whole_ways_back
set_option Elab.async false
set_option linter.all false
set_option maxRecDepth 100000
set_option maxHeartbeats 8000000
/-! k03: a way back undoes a way. Mathematics, rules that the layer lacks, one promise a def, the law, the head. -/
/-! The mathematics of k03: tables, walks forth and back, floors. No program in sight. -/
namespace Way

/-! ### tables -/
abbrev Ent := Int × Int × Int
abbrev Tab := List (List (Option Ent))
structure TabOk (t : Tab) (n : Nat) : Prop where
  s1 : 1 ≤ t.length
  s2 : t.length ≤ 10
  c1 : 2 ≤ n
  c2 : n ≤ 6
  rows : ∀ r ∈ t, r.length = n
  ents : ∀ r ∈ t, ∀ e : Ent, some e ∈ r → (0 ≤ e.1 ∧ e.1 < (n : Int)) ∧ (0 ≤ e.2.1 ∧ e.2.1 ≤ 3) ∧ (0 ≤ e.2.2 ∧ e.2.2 < (t.length : Int))
def entAt (t : Tab) (s c : Int) : Option Ent := (t.getD s.toNat []).getD c.toNat none
theorem entAt_of {t : Tab} {i j : Nat} {r : List (Option Ent)} {o : Option Ent} (h1 : t[i]? = some r) (h2 : r[j]? = some o) : entAt t (i : Int) (j : Int) = o := by
  unfold entAt
  simp [List.getD, h1, h2]

/-- a row's cells from the j-th on -/
def rowCells (i : Nat) : Nat → List (Option Ent) → List ((Int × Int) × Option Ent)
  | _, [] => []
  | j, e :: r => (((i : Int), (j : Int)), e) :: rowCells i (j + 1) r
def tabCells : Nat → Tab → List ((Int × Int) × Option Ent)
  | _, [] => []
  | i, r :: t => rowCells i 0 r ++ tabCells (i + 1) t
abbrev cells (t : Tab) := tabCells 0 t
theorem rowCells_snoc (i : Nat) (e : Option Ent) : ∀ (r : List (Option Ent)) (j : Nat), rowCells i j (r ++ [e]) = rowCells i j r ++ [(((i : Int), ((j + r.length : Nat) : Int)), e)]
  | [], j => by simp [rowCells]
  | a :: r, j => by
    show _ :: rowCells i (j + 1) (r ++ [e]) = _ :: (rowCells i (j + 1) r ++ _)
    rw [rowCells_snoc i e r (j + 1)]
    have z : j + 1 + r.length = j + (a :: r).length := by simp; omega
    rw [z]
theorem tabCells_snoc (r : List (Option Ent)) : ∀ (t : Tab) (i : Nat), tabCells i (t ++ [r]) = tabCells i t ++ rowCells (i + t.length) 0 r
  | [], i => by simp [tabCells]
  | a :: t, i => by
    show rowCells i 0 a ++ tabCells (i + 1) (t ++ [r]) = (rowCells i 0 a ++ tabCells (i + 1) t) ++ _
    rw [tabCells_snoc r t (i + 1), List.append_assoc]
    have z : i + 1 + t.length = i + (a :: t).length := by simp; omega
    rw [z]
theorem take_snoc {α : Type} {l : List α} {i : Nat} {x : α} (h : l[i]? = some x) : l.take (i + 1) = l.take i ++ [x] := by
  rw [List.take_add_one, h]
  rfl
theorem rowCells_take {i j : Nat} {r : List (Option Ent)} {e : Option Ent} (h : r[j]? = some e) : rowCells i 0 (r.take (j + 1)) = rowCells i 0 (r.take j) ++ [(((i : Int), (j : Int)), e)] := by
  have hl : j < r.length := (List.getElem?_eq_some_iff.mp h).1
  rw [take_snoc h, rowCells_snoc]
  have z : 0 + (r.take j).length = j := by rw [List.length_take]; omega
  rw [z]
theorem tabCells_take {i : Nat} {t : Tab} {r : List (Option Ent)} (h : t[i]? = some r) : tabCells 0 (t.take (i + 1)) = tabCells 0 (t.take i) ++ rowCells i 0 r := by
  have hl : i < t.length := (List.getElem?_eq_some_iff.mp h).1
  rw [take_snoc h, tabCells_snoc]
  have z : 0 + (t.take i).length = i := by rw [List.length_take]; omega
  rw [z]
theorem mem_rowCells {i : Nat} {x : (Int × Int) × Option Ent} : ∀ {r : List (Option Ent)} {j : Nat}, x ∈ rowCells i j r ↔ ∃ (k : Nat) (e : Option Ent), r[k]? = some e ∧ x = (((i : Int), ((j + k : Nat) : Int)), e)
  | [], j => by simp [rowCells]
  | a :: r, j => by
    show x ∈ _ :: rowCells i (j + 1) r ↔ _
    rw [List.mem_cons, mem_rowCells (r := r) (j := j + 1)]
    constructor
    · rintro (h | ⟨k, e, h1, h2⟩)
      · exact ⟨0, a, rfl, h⟩
      · exact ⟨k + 1, e, by simpa using h1, by rw [h2]; have z : j + 1 + k = j + (k + 1) := by omega
                                               rw [z]⟩
    · rintro ⟨k, e, h1, h2⟩
      cases k with
      | zero =>
        left
        have : a = e := by simpa using h1
        rw [h2, this]
        rfl
      | succ k =>
        right
        exact ⟨k, e, by simpa using h1, by rw [h2]; have z : j + 1 + k = j + (k + 1) := by omega
                                           rw [z]⟩
theorem mem_tabCells {x : (Int × Int) × Option Ent} : ∀ {t : Tab} {i : Nat}, x ∈ tabCells i t ↔ ∃ (k : Nat) (r : List (Option Ent)) (j : Nat) (e : Option Ent), t[k]? = some r ∧ r[j]? = some e ∧ x = ((((i + k : Nat) : Int), (j : Int)), e)
  | [], i => by simp [tabCells]
  | a :: t, i => by
    show x ∈ rowCells i 0 a ++ tabCells (i + 1) t ↔ _
    rw [List.mem_append, mem_rowCells, mem_tabCells (t := t) (i := i + 1)]
    constructor
    · rintro (⟨k, e, h1, h2⟩ | ⟨k, r, j, e, h1, h2, h3⟩)
      · exact ⟨0, a, k, e, rfl, h1, by rw [h2]; simp⟩
      · exact ⟨k + 1, r, j, e, by simpa using h1, h2, by rw [h3]; have z : i + 1 + k = i + (k + 1) := by omega
                                                         rw [z]⟩
    · rintro ⟨k, r, j, e, h1, h2, h3⟩
      cases k with
      | zero =>
        left
        have : a = r := by simpa using h1
        subst this
        exact ⟨j, e, h2, by rw [h3]; simp⟩
      | succ k =>
        right
        exact ⟨k, r, j, e, by simpa using h1, h2, by rw [h3]; have z : i + 1 + k = i + (k + 1) := by omega
                                                     rw [z]⟩
theorem mem_cells {t : Tab} {s c : Int} {o : Option Ent} : ((s, c), o) ∈ cells t ↔ ∃ (i j : Nat) (r : List (Option Ent)), s = (i : Int) ∧ c = (j : Int) ∧ t[i]? = some r ∧ r[j]? = some o := by
  rw [mem_tabCells]
  constructor
  · rintro ⟨k, r, j, e, h1, h2, h3⟩
    simp only [Prod.mk.injEq, Nat.zero_add] at h3
    obtain ⟨⟨rfl, rfl⟩, rfl⟩ := h3
    exact ⟨k, j, r, rfl, rfl, h1, h2⟩
  · rintro ⟨i, j, r, rfl, rfl, h1, h2⟩
    exact ⟨i, r, j, o, h1, h2, by simp⟩

/-- the state and the paint to which an entry leads -/
abbrev keyOf (o : Option Ent) : Option (Int × Int) := o.map fun e => (e.2.2, e.1)
def keysOf (cs : List ((Int × Int) × Option Ent)) : List (Int × Int) := cs.filterMap fun x => keyOf x.2
def srcsOf (cs : List ((Int × Int) × Option Ent)) (k : Int × Int) : List (Int × Int) := (cs.filter fun x => decide (keyOf x.2 = some k)).map (·.1)
abbrev srcs (t : Tab) (k : Int × Int) := srcsOf (cells t) k
abbrev keys (t : Tab) := keysOf (cells t)
theorem keysOf_append (a b : List ((Int × Int) × Option Ent)) : keysOf (a ++ b) = keysOf a ++ keysOf b := List.filterMap_append
theorem srcsOf_append (a b : List ((Int × Int) × Option Ent)) (k : Int × Int) : srcsOf (a ++ b) k = srcsOf a k ++ srcsOf b k := by
  unfold srcsOf
  rw [List.filter_append, List.map_append]
theorem srcsOf_one_yes {x : (Int × Int) × Option Ent} {k : Int × Int} (h : keyOf x.2 = some k) : srcsOf [x] k = [x.1] := by
  unfold srcsOf
  rw [List.filter_cons_of_pos (by simpa using h)]
  rfl
theorem srcsOf_one_no {x : (Int × Int) × Option Ent} {k : Int × Int} (h : keyOf x.2 ≠ some k) : srcsOf [x] k = [] := by
  unfold srcsOf
  rw [List.filter_cons_of_neg (by simpa using h)]
  rfl
theorem srcs_count (k : Int × Int) : ∀ cs : List ((Int × Int) × Option Ent), (srcsOf cs k).length = (keysOf cs).count k
  | [] => rfl
  | x :: cs => by
    have ih := srcs_count k cs
    have e1 : srcsOf (x :: cs) k = srcsOf [x] k ++ srcsOf cs k := srcsOf_append [x] cs k
    have e2 : keysOf (x :: cs) = keysOf [x] ++ keysOf cs := keysOf_append [x] cs
    rw [e1, e2, List.length_append, List.count_append, ih]
    congr 1
    by_cases h : keyOf x.2 = some k
    · rw [srcsOf_one_yes h]
      have : keysOf [x] = [k] := by
        unfold keysOf
        rw [List.filterMap_cons, h]
        rfl
      rw [this]
      simp
    · rw [srcsOf_one_no h]
      cases hx : keyOf x.2 with
      | none =>
        have : keysOf [x] = [] := by
          unfold keysOf
          rw [List.filterMap_cons, hx]
          rfl
        rw [this]
        rfl
      | some k' =>
        have : keysOf [x] = [k'] := by
          unfold keysOf
          rw [List.filterMap_cons, hx]
          rfl
        rw [this]
        have ne : k' ≠ k := fun e => h (by rw [hx, e])
        simp [List.count_cons, ne]
theorem good_iff {cs : List ((Int × Int) × Option Ent)} : (keysOf cs).Nodup ↔ ∀ k, (srcsOf cs k).length ≤ 1 := by
  rw [List.nodup_iff_count]
  constructor
  · intro h k
    rw [srcs_count]
    exact h k
  · intro h k
    rw [← srcs_count]
    exact h k
theorem mem_srcs {cs : List ((Int × Int) × Option Ent)} {k x : Int × Int} : x ∈ srcsOf cs k ↔ ∃ o, (x, o) ∈ cs ∧ keyOf o = some k := by
  unfold srcsOf
  rw [List.mem_map]
  constructor
  · rintro ⟨y, hy, rfl⟩
    obtain ⟨h1, h2⟩ := List.mem_filter.mp hy
    exact ⟨y.2, h1, by simpa using h2⟩
  · rintro ⟨o, h1, h2⟩
    exact ⟨(x, o), List.mem_filter.mpr ⟨h1, by simpa using h2⟩, rfl⟩
/-- what a source is -/
theorem src_ent {t : Tab} {s p o c : Int} (h : (o, c) ∈ srcs t (s, p)) : ∃ (i j : Nat) (r : List (Option Ent)) (e : Ent), o = (i : Int) ∧ c = (j : Int) ∧ t[i]? = some r ∧ r[j]? = some (some e) ∧ e.2.2 = s ∧ e.1 = p ∧ entAt t o c = some e := by
  obtain ⟨x, h1, h2⟩ := mem_srcs.mp h
  obtain ⟨i, j, r, rfl, rfl, h3, h4⟩ := mem_cells.mp h1
  cases x with
  | none => cases h2
  | some e =>
    have z : (e.2.2, e.1) = (s, p) := Option.some.inj h2
    obtain ⟨z1, z2⟩ := Prod.mk.inj z
    exact ⟨i, j, r, e, rfl, rfl, h3, h4, z1, z2, entAt_of h3 h4⟩

/-! ### walks -/
structure Wk where
  f : Int × Int → Int
  x : Int
  y : Int
  h : Int
  s : Int
def dx (h : Int) : Int := if h = 1 then 1 else if h = 3 then -1 else 0
def dy (h : Int) : Int := if h = 0 then -1 else if h = 2 then 1 else 0
def put (f : Int × Int → Int) (p : Int × Int) (c : Int) : Int × Int → Int := fun q => if q = p then c else f q
theorem put_same {f : Int × Int → Int} {p : Int × Int} {c : Int} : put f p c p = c := if_pos rfl
theorem put_ne {f : Int × Int → Int} {p q : Int × Int} {c : Int} (h : q ≠ p) : put f p c q = f q := if_neg h
theorem put_back {f : Int × Int → Int} {p : Int × Int} {c : Int} : put (put f p c) p (f p) = f := by
  funext q
  by_cases h : q = p
  · rw [h, put_same]
  · rw [put_ne h, put_ne h]
/-- a step by an entry -/
def stepBy (w : Wk) (e : Ent) : Wk := ⟨put w.f (w.x, w.y) e.1, w.x + dx ((w.h + e.2.1) % 4), w.y + dy ((w.h + e.2.1) % 4), (w.h + e.2.1) % 4, e.2.2⟩
def fwd (t : Tab) (w : Wk) : Option Wk := (entAt t w.s (w.f (w.x, w.y))).map (stepBy w)
def pre (w : Wk) : Int × Int := (w.x - dx w.h, w.y - dy w.h)
/-- a step back to the state and colour oc -/
def backBy (t : Tab) (w : Wk) (oc : Int × Int) : Wk := ⟨put w.f (pre w) oc.2, (pre w).1, (pre w).2, (w.h - ((entAt t oc.1 oc.2).getD (0, 0, 0)).2.1) % 4, oc.1⟩
def bwd (t : Tab) (w : Wk) : Option Wk := match srcs t (w.s, w.f (pre w)) with
  | [oc] => some (backBy t w oc)
  | _ => none
structure Ok (t : Tab) (n : Nat) (B : Int) (w : Wk) : Prop where
  h0 : 0 ≤ w.h
  h1 : w.h ≤ 3
  s0 : 0 ≤ w.s
  s1 : w.s < (t.length : Int)
  x0 : -B ≤ w.x
  x1 : w.x ≤ B
  y0 : -B ≤ w.y
  y1 : w.y ≤ B
  f0 : ∀ q, 0 ≤ w.f q
  f1 : ∀ q, w.f q < (n : Int)
  fb : ∀ q, w.f q ≠ 0 → (-B ≤ q.1 ∧ q.1 ≤ B) ∧ (-B ≤ q.2 ∧ q.2 ≤ B)
theorem dx_le (h : Int) : -1 ≤ dx h ∧ dx h ≤ 1 := by
  unfold dx
  split
  · omega
  · split <;> omega
theorem dy_le (h : Int) : -1 ≤ dy h ∧ dy h ≤ 1 := by
  unfold dy
  split
  · omega
  · split <;> omega
/-- the entry that a walker reads -/
theorem read_ent {t : Tab} {n : Nat} {B : Int} {w : Wk} (T : TabOk t n) (W : Ok t n B w) (q : Int × Int) : ∃ (i j : Nat) (r : List (Option Ent)) (o : Option Ent), w.s = (i : Int) ∧ w.f q = (j : Int) ∧ t[i]? = some r ∧ r[j]? = some o ∧ entAt t w.s (w.f q) = o := by
  have h1 := W.s0
  have h2 := W.s1
  have h3 := W.f0 q
  have h4 := W.f1 q
  obtain ⟨i, hi⟩ : ∃ i : Nat, w.s = (i : Int) := ⟨w.s.toNat, by omega⟩
  obtain ⟨j, hj⟩ : ∃ j : Nat, w.f q = (j : Int) := ⟨(w.f q).toNat, by omega⟩
  have il : i < t.length := by omega
  have er : t[i]? = some t[i] := List.getElem?_eq_getElem il
  have rl : (t[i]).length = n := T.rows _ (List.getElem_mem il)
  have jl : j < (t[i]).length := by omega
  refine ⟨i, j, t[i], (t[i])[j], hi, hj, er, List.getElem?_eq_getElem jl, ?_⟩
  rw [hi, hj]
  exact entAt_of er (List.getElem?_eq_getElem jl)
theorem ent_ok {t : Tab} {n : Nat} (T : TabOk t n) {i j : Nat} {r : List (Option Ent)} {e : Ent} (h1 : t[i]? = some r) (h2 : r[j]? = some (some e)) :
    (0 ≤ e.1 ∧ e.1 < (n : Int)) ∧ (0 ≤ e.2.1 ∧ e.2.1 ≤ 3) ∧ (0 ≤ e.2.2 ∧ e.2.2 < (t.length : Int)) := T.ents r (List.mem_of_getElem? h1) e (List.mem_of_getElem? h2)
theorem step_ok {t : Tab} {n : Nat} {B : Int} {w : Wk} {e : Ent} (W : Ok t n B w) (he : (0 ≤ e.1 ∧ e.1 < (n : Int)) ∧ (0 ≤ e.2.1 ∧ e.2.1 ≤ 3) ∧ (0 ≤ e.2.2 ∧ e.2.2 < (t.length : Int))) : Ok t n (B + 1) (stepBy w e) := by
  obtain ⟨⟨a1, a2⟩, ⟨b1, b2⟩, ⟨c1, c2⟩⟩ := he
  have x := dx_le ((w.h + e.2.1) % 4)
  have y := dy_le ((w.h + e.2.1) % 4)
  have := W.x0
  have := W.x1
  have := W.y0
  have := W.y1
  refine ⟨by show 0 ≤ (w.h + e.2.1) % 4; omega, by show (w.h + e.2.1) % 4 ≤ 3; omega, c1, c2, by show -(B + 1) ≤ w.x + dx _; omega, by show w.x + dx _ ≤ B + 1; omega, by show -(B + 1) ≤ w.y + dy _; omega, by show w.y + dy _ ≤ B + 1; omega, fun q => ?_, fun q => ?_, fun q hq => ?_⟩
  · show 0 ≤ put w.f (w.x, w.y) e.1 q
    by_cases h : q = (w.x, w.y)
    · rw [h, put_same]; exact a1
    · rw [put_ne h]; exact W.f0 q
  · show put w.f (w.x, w.y) e.1 q < (n : Int)
    by_cases h : q = (w.x, w.y)
    · rw [h, put_same]; exact a2
    · rw [put_ne h]; exact W.f1 q
  · by_cases h : q = (w.x, w.y)
    · rw [h]
      exact ⟨⟨by show -(B + 1) ≤ w.x; omega, by show w.x ≤ B + 1; omega⟩, ⟨by show -(B + 1) ≤ w.y; omega, by show w.y ≤ B + 1; omega⟩⟩
    · have hq' : put w.f (w.x, w.y) e.1 q ≠ 0 := hq
      rw [put_ne h] at hq'
      obtain ⟨⟨p1, p2⟩, ⟨p3, p4⟩⟩ := W.fb q hq'
      exact ⟨⟨by omega, by omega⟩, ⟨by omega, by omega⟩⟩
theorem fwd_ok {t : Tab} {n : Nat} {B : Int} {w w' : Wk} (T : TabOk t n) (W : Ok t n B w) (h : fwd t w = some w') : Ok t n (B + 1) w' := by
  obtain ⟨i, j, r, o, _, _, h3, h4, h5⟩ := read_ent T W (w.x, w.y)
  unfold fwd at h
  rw [h5] at h
  cases o with
  | none => cases h
  | some e =>
    have z : stepBy w e = w' := Option.some.inj h
    rw [← z]
    exact step_ok W (ent_ok T h3 h4)
theorem Ok.mono {t : Tab} {n : Nat} {B C : Int} {w : Wk} (W : Ok t n B w) (h : B ≤ C) : Ok t n C w := by
  have := W.x0
  have := W.x1
  have := W.y0
  have := W.y1
  exact ⟨W.h0, W.h1, W.s0, W.s1, by omega, by omega, by omega, by omega, W.f0, W.f1, fun q hq => by obtain ⟨⟨p1, p2⟩, ⟨p3, p4⟩⟩ := W.fb q hq; exact ⟨⟨by omega, by omega⟩, ⟨by omega, by omega⟩⟩⟩
/-- a step back undoes a step -/
theorem bwd_fwd {t : Tab} {n : Nat} {B : Int} {w w' : Wk} (T : TabOk t n) (G : (keys t).Nodup) (W : Ok t n B w) (h : fwd t w = some w') : bwd t w' = some w := by
  obtain ⟨i, j, r, o, h1, h2, h3, h4, h5⟩ := read_ent T W (w.x, w.y)
  unfold fwd at h
  rw [h5] at h
  cases o with
  | none => cases h
  | some e =>
    have z : stepBy w e = w' := Option.some.inj h
    obtain ⟨_, ⟨t0, t3⟩, _⟩ := ent_ok T h3 h4
    have hp : pre w' = (w.x, w.y) := by
      rw [← z]
      show (w.x + dx ((w.h + e.2.1) % 4) - dx ((w.h + e.2.1) % 4), w.y + dy ((w.h + e.2.1) % 4) - dy ((w.h + e.2.1) % 4)) = (w.x, w.y)
      rw [Int.add_sub_cancel, Int.add_sub_cancel]
    have hf : w'.f (pre w') = e.1 := by
      rw [hp, ← z]
      exact put_same
    have hs : w'.s = e.2.2 := by rw [← z]; rfl
    have hm : (w.s, w.f (w.x, w.y)) ∈ srcs t (w'.s, w'.f (pre w')) := by
      rw [hf, hs]
      refine mem_srcs.mpr ⟨some e, mem_cells.mpr ⟨i, j, r, h1, h2, h3, h4⟩, rfl⟩
    have hl := good_iff.mp G (w'.s, w'.f (pre w'))
    have one : srcs t (w'.s, w'.f (pre w')) = [(w.s, w.f (w.x, w.y))] := by
      cases hc : srcs t (w'.s, w'.f (pre w')) with
      | nil => rw [hc] at hm; cases hm
      | cons a l =>
        have hl' : (a :: l).length ≤ 1 := by rw [← hc]; exact hl
        have : l = [] := List.length_eq_zero_iff.mp (by simpa using hl')
        rw [hc, this] at hm
        rw [this, List.mem_singleton.mp hm]
    unfold bwd
    rw [one]
    show some (backBy t w' (w.s, w.f (w.x, w.y))) = some w
    congr 1
    unfold backBy
    rw [hp]
    show Wk.mk (put w'.f (w.x, w.y) (w.f (w.x, w.y))) w.x w.y ((w'.h - ((entAt t w.s (w.f (w.x, w.y))).getD (0, 0, 0)).2.1) % 4) w.s = w
    rw [h5, ← z]
    have e1 : put (stepBy w e).f (w.x, w.y) (w.f (w.x, w.y)) = w.f := put_back
    have e2 : ((stepBy w e).h - ((some e : Option Ent).getD (0, 0, 0)).2.1) % 4 = w.h := by
      show ((w.h + e.2.1) % 4 - e.2.1) % 4 = w.h
      have := W.h0
      have := W.h1
      omega
    rw [e1, e2]
/-- many steps, to a stop: the end, how many were done -/
def fwdN (t : Tab) : Nat → Wk → Wk × Nat
  | 0, w => (w, 0)
  | k + 1, w => match fwd t w with
    | none => (w, 0)
    | some w' => ((fwdN t k w').1, (fwdN t k w').2 + 1)
def bwdN (t : Tab) : Nat → Wk → Option Wk
  | 0, w => some w
  | k + 1, w => (bwd t w).bind (bwdN t k)
theorem bwdN_snoc (t : Tab) : ∀ (k : Nat) (w : Wk), bwdN t (k + 1) w = (bwdN t k w).bind (bwd t)
  | 0, w => by
    show (bwd t w).bind (fun w => some w) = (some w).bind (bwd t)
    simp
  | k + 1, w => by
    show (bwd t w).bind (bwdN t (k + 1)) = ((bwd t w).bind (bwdN t k)).bind (bwd t)
    cases bwd t w with
    | none => rfl
    | some w' =>
      show bwdN t (k + 1) w' = (bwdN t k w').bind (bwd t)
      exact bwdN_snoc t k w'
theorem fwdN_stop {t : Tab} {k : Nat} {w : Wk} (h : fwd t w = none) : fwdN t k w = (w, 0) := by
  cases k with
  | zero => rfl
  | succ k => unfold fwdN; rw [h]
theorem fwdN_go {t : Tab} {k : Nat} {w w' : Wk} (h : fwd t w = some w') : fwdN t (k + 1) w = ((fwdN t k w').1, (fwdN t k w').2 + 1) := by
  show (match fwd t w with
    | none => (w, 0)
    | some w' => ((fwdN t k w').1, (fwdN t k w').2 + 1)) = _
  rw [h]
theorem fwdN_ok {t : Tab} {n : Nat} (T : TabOk t n) : ∀ (k : Nat) {B : Int} {w : Wk}, Ok t n B w → Ok t n (B + (k : Int)) (fwdN t k w).1 ∧ (fwdN t k w).2 ≤ k
  | 0, B, w, W => ⟨W.mono (by omega), Nat.le_refl _⟩
  | k + 1, B, w, W => by
    cases h : fwd t w with
    | none =>
      rw [fwdN_stop h]
      exact ⟨W.mono (by omega), Nat.zero_le _⟩
    | some w' =>
      rw [fwdN_go h]
      obtain ⟨a, b⟩ := fwdN_ok T k (fwd_ok T W h)
      exact ⟨a.mono (by omega), Nat.succ_le_succ b⟩
theorem undo {t : Tab} {n : Nat} (T : TabOk t n) (G : (keys t).Nodup) : ∀ (k : Nat) {B : Int} {w : Wk}, Ok t n B w → bwdN t (fwdN t k w).2 (fwdN t k w).1 = some w
  | 0, B, w, W => rfl
  | k + 1, B, w, W => by
    cases h : fwd t w with
    | none =>
      rw [fwdN_stop h]
      rfl
    | some w' =>
      rw [fwdN_go h]
      show bwdN t ((fwdN t k w').2 + 1) (fwdN t k w').1 = some w
      rw [bwdN_snoc, undo T G k (fwd_ok T W h)]
      exact bwd_fwd T G W h
theorem back_head {t : Tab} {w w' : Wk} (h : bwd t w = some w') : 0 ≤ w'.h ∧ w'.h ≤ 3 := by
  unfold bwd at h
  split at h
  · have z := Option.some.inj h
    rw [← z]
    show 0 ≤ (w.h - _) % 4 ∧ (w.h - _) % 4 ≤ 3
    omega
  · cases h

/-! ### floors -/
abbrev Sq := Int × Int × Int
def sqLt (a b : Sq) : Prop := a.1 < b.1 ∨ (a.1 = b.1 ∧ a.2.1 < b.2.1)
structure IsFloor (F : List Sq) (f : Int × Int → Int) : Prop where
  sorted : F.Pairwise sqLt
  mem : ∀ x y c, (x, y, c) ∈ F ↔ (f (x, y) = c ∧ c ≠ 0)
theorem sqLt_asymm {a b : Sq} (h : sqLt a b) : ¬ sqLt b a := by
  unfold sqLt at *
  omega
theorem sorted_ext : ∀ {l m : List Sq}, l.Pairwise sqLt → m.Pairwise sqLt → (∀ x, x ∈ l ↔ x ∈ m) → l = m
  | [], [], _, _, _ => rfl
  | [], b :: m, _, _, h => absurd ((h b).mpr List.mem_cons_self) (by simp)
  | a :: l, [], _, _, h => absurd ((h a).mp List.mem_cons_self) (by simp)
  | a :: l, b :: m, hl, hm, h => by
    obtain ⟨l1, l2⟩ := List.pairwise_cons.mp hl
    obtain ⟨m1, m2⟩ := List.pairwise_cons.mp hm
    have ab : a = b := by
      rcases List.mem_cons.mp ((h a).mp List.mem_cons_self) with e | ha
      · exact e
      · rcases List.mem_cons.mp ((h b).mpr List.mem_cons_self) with e | hb
        · exact e.symm
        · exact absurd (l1 b hb) (sqLt_asymm (m1 a ha))
    subst ab
    have nl : a ∉ l := fun z => sqLt_asymm (l1 a z) (l1 a z)
    have nm : a ∉ m := fun z => sqLt_asymm (m1 a z) (m1 a z)
    have e : l = m := sorted_ext l2 m2 fun x => by
      constructor
      · intro hx
        rcases List.mem_cons.mp ((h x).mp (List.mem_cons_of_mem _ hx)) with e | q
        · exact absurd (e ▸ hx) nl
        · exact q
      · intro hx
        rcases List.mem_cons.mp ((h x).mpr (List.mem_cons_of_mem _ hx)) with e | q
        · exact absurd (e ▸ hx) nm
        · exact q
    rw [e]
theorem IsFloor.unique {F G : List Sq} {f : Int × Int → Int} (a : IsFloor F f) (b : IsFloor G f) : F = G :=
  sorted_ext a.sorted b.sorted fun x => by
    obtain ⟨x, y, c⟩ := x
    rw [a.mem, b.mem]
end Way
/-! Floors and squares: from the list to the function and back. -/
namespace Way
def sqF (F : List Sq) : Int × Int → Int := F.foldl (fun f s => put f (s.1, s.2.1) s.2.2) (fun _ => 0)
theorem sqF_snoc (F : List Sq) (s : Sq) : sqF (F ++ [s]) = put (sqF F) (s.1, s.2.1) s.2.2 := by
  unfold sqF
  rw [List.foldl_append]
  rfl
theorem fold_out {x y : Int} : ∀ {F : List Sq} {f : Int × Int → Int}, (∀ c, (x, y, c) ∉ F) → F.foldl (fun f s => put f (s.1, s.2.1) s.2.2) f (x, y) = f (x, y)
  | [], _, _ => rfl
  | s :: F, f, h => by
    show F.foldl _ (put f (s.1, s.2.1) s.2.2) (x, y) = f (x, y)
    rw [fold_out fun c hc => h c (List.mem_cons_of_mem _ hc)]
    refine put_ne fun e => h s.2.2 ?_
    have e1 : x = s.1 := congrArg Prod.fst e
    have e2 : y = s.2.1 := congrArg Prod.snd e
    rw [e1, e2]
    exact List.mem_cons_self
theorem fold_in {x y c : Int} : ∀ {F : List Sq} {f : Int × Int → Int}, F.Pairwise sqLt → (x, y, c) ∈ F → F.foldl (fun f s => put f (s.1, s.2.1) s.2.2) f (x, y) = c
  | s :: F, f, h, hm => by
    obtain ⟨h1, h2⟩ := List.pairwise_cons.mp h
    rcases List.mem_cons.mp hm with e | hm
    · show F.foldl _ (put f (s.1, s.2.1) s.2.2) (x, y) = c
      rw [fold_out]
      · rw [← e]
        exact put_same
      · intro c' hc
        have := h1 _ hc
        rw [← e] at this
        unfold sqLt at this
        simp only at this
        omega
    · show F.foldl _ (put f (s.1, s.2.1) s.2.2) (x, y) = c
      exact fold_in h2 hm
theorem sqF_floor {F : List Sq} (h : F.Pairwise sqLt) (h0 : ∀ q ∈ F, q.2.2 ≠ 0) : IsFloor F (sqF F) := by
  refine ⟨h, fun x y c => ⟨fun hm => ⟨fold_in h hm, h0 _ hm⟩, fun ⟨e, hc⟩ => ?_⟩⟩
  apply Classical.byContradiction
  intro hn
  by_cases hx : ∃ c', (x, y, c') ∈ F
  · obtain ⟨c', hc'⟩ := hx
    have := fold_in (f := fun _ => 0) h hc'
    have e2 : c' = c := by rw [← this]; exact e
    exact hn (e2 ▸ hc')
  · have := fold_out (f := fun _ => 0) (F := F) (x := x) (y := y) fun c' hc' => hx ⟨c', hc'⟩
    exact hc (by rw [← e]; exact this)
/-- the floor of some keys -/
def cellOf (f : Int × Int → Int) (q : Int × Int) : Option Sq := if f q = 0 then none else some (q.1, q.2, f q)
def floorL (f : Int × Int → Int) (ks : List (Int × Int)) : List Sq := ks.filterMap (cellOf f)
theorem floorL_snoc (f : Int × Int → Int) (ks : List (Int × Int)) (q : Int × Int) : floorL f (ks ++ [q]) = if f q = 0 then floorL f ks else floorL f ks ++ [(q.1, q.2, f q)] := by
  unfold floorL
  rw [List.filterMap_append]
  unfold cellOf
  by_cases h : f q = 0
  · rw [if_pos h]
    simp [h]
  · rw [if_neg h]
    simp [h]
theorem floorL_len (f : Int × Int → Int) (ks : List (Int × Int)) : (floorL f ks).length ≤ ks.length := List.length_filterMap_le _ _
def kLe (a b : Int × Int) : Prop := a.1 < b.1 ∨ (a.1 = b.1 ∧ a.2 ≤ b.2)
theorem mem_floorL {f : Int × Int → Int} {ks : List (Int × Int)} {x y c : Int} : (x, y, c) ∈ floorL f ks ↔ (x, y) ∈ ks ∧ f (x, y) = c ∧ c ≠ 0 := by
  unfold floorL
  rw [List.mem_filterMap]
  constructor
  · rintro ⟨q, hq, e⟩
    unfold cellOf at e
    by_cases h : f q = 0
    · rw [if_pos h] at e; cases e
    · rw [if_neg h] at e
      have e := Option.some.inj e
      have e1 : q.1 = x := congrArg (fun s : Sq => s.1) e
      have e2 : q.2 = y := congrArg (fun s : Sq => s.2.1) e
      have e3 : f q = c := congrArg (fun s : Sq => s.2.2) e
      have e4 : q = (x, y) := Prod.ext e1 e2
      rw [← e4]
      exact ⟨hq, e3, fun z => h (e3.trans z)⟩
  · rintro ⟨h1, h2, h3⟩
    refine ⟨(x, y), h1, ?_⟩
    unfold cellOf
    rw [if_neg (by rw [h2]; exact h3), h2]
theorem floorL_is {f : Int × Int → Int} {ks : List (Int × Int)} (hs : ks.Pairwise kLe) (hn : ks.Nodup) (ha : ∀ q, f q ≠ 0 → q ∈ ks) : IsFloor (floorL f ks) f := by
  refine ⟨?_, fun x y c => ?_⟩
  · unfold floorL
    refine List.Pairwise.filterMap _ ?_ (List.Pairwise.and hs hn)
    rintro a b ⟨h1, h2⟩ s hs t ht
    unfold cellOf at hs ht
    by_cases e1 : f a = 0
    · rw [if_pos e1] at hs; cases hs
    · by_cases e2 : f b = 0
      · rw [if_pos e2] at ht; cases ht
      · rw [if_neg e1] at hs
        rw [if_neg e2] at ht
        have hs := Option.some.inj hs
        have ht := Option.some.inj ht
        rw [← hs, ← ht]
        unfold sqLt
        unfold kLe at h1
        have h3 : ¬ (a.1 = b.1 ∧ a.2 = b.2) := fun z => h2 (Prod.ext z.1 z.2)
        simp only
        omega
  · rw [mem_floorL]
    exact ⟨fun h => h.2, fun h => ⟨ha _ (by rw [h.1]; exact h.2), h⟩⟩
end Way
/-! Rules that the layer lacks. -/
namespace WayR
open PySem PySem.Spec PyProof.Rows L2

/-! ### C(), an own exception class without an own __init__ -/
theorem pmk_own0 {X : Cx} {C : Addr} {bmB : List Value} {B newId initId : String} {x : Str} {p pos : Pos} (F : ExcBaseFacts B newId initId bmB) (q : PySem.W.excIn X.K C bmB newId = true)
    (gC : X.mg x = some (.ref C)) (kC : PySem.W.keepIn X.K (.ref C) = true) (r : Raises X (.ref C)) (hg : Gl X x) (hdb : (x == ("__debug__" : Str)) = false := by decide) :
    PMk X (.Call (.Name x p) [] [] pos) (fun _ H Q => Q (.ref C) none H) := by
  intro pins s σ H Q I hq
  have kin := I.kIn
  refine wpAny_Call_Name_kw (ld_glob I hg gC ?_ hdb)
  refine PySem.W.callWith_K0 kin kC ?_
  obtain ⟨bm, N, nm, qn, bs, hdct, sn, sub, ab, col, dd, k0, k1, k2, k3, k5, mN, hC, hN, hni, T⟩ := exc_obj kin q
  exact wpAny_call_exc_subT F T hC hN hni (fun h' e made => mk_of I made r hq (I.hok.gone made.new)) (Nat.zero_le _)

/-! ### len of a set of tuples -/
def rLenSetT (K : PySem.W.Frag) (P : Program) (w : World) : List V → Hp → VK → Prop := fun xs H Q => ∃ (a : Addr) (L : List (Addr × List Int)), xs = [V.ref a] ∧ H a = some (SetTO P w a L) ∧
  (∀ p ∈ L, SqT K H p.1 (p.2.map V.int)) ∧ ((L.map (·.2)).Nodup → Q (.int (L.length : Int)) H)
theorem call_lenSetT {X : Cx} : CallR X (.builtin "len") (rLenSetT X.K X.prog X.w) := by
  intro pins s σ H xs us Q I r hq
  obtain ⟨a, L, rfl, ha, ht, q⟩ := hq
  rw [Vals.ref1 r]
  have R0 : SetT0 X.prog X.w s.heap a L := (show ObjOk X.prog X.w H s.heap a (SetTO X.prog X.w a L) from I.hok a _ ha).1
  obtain ⟨es, ep, t, R⟩ := R0.full fun p hp => I.isT (ht p hp)
  obtain ⟨o, ho, hex, hd⟩ := R.ob
  have sz := R.size
  have few := R.few
  refine call_len_set ho hex hd R.fits (by omega) ?_
  rw [sz]
  exact ⟨.int (L.length : Int), H, I.tok _, ⟨_, rfl⟩, q R.nd⟩

/-! ### for i, x in enumerate(t), t a tuple -/
def ItetT (K : PySem.W.Frag) (a : Addr) : It :=
  ⟨fun i H => ∃ (xs : List V) (x : V), SqT K H a xs ∧ xs[i]? = some x,
   fun i H v H' => ∃ T x, v = .ref T ∧ H T = none ∧ H' = upd H T (.tup [.int (i : Nat), x]) ∧ ∀ xs, SqT K H a xs → xs[i]? = some x,
   fun i H => ∃ xs : List V, SqT K H a xs ∧ xs.length ≤ i⟩
theorem meets_enumT (l : Addr) (items : Array Value) (n : Nat) (dct : Option Addr) (sl : Array (Option Value)) :
    Meets (Builtin.«enumerate.__new__» ⟨[.type "enumerate", .ref l], []⟩) (fun _ R s => s.heap.get? l = some { cls := .type "tuple", dict := dct, data := .seq items n, slots := sl } ∧
      R (.ok (.ret (.ref (s.heap.push { cls := .type "tuple_iterator", data := .fields #[.ref l, .int 0 0] }).objs.size)))
        { s with heap := (s.heap.push { cls := .type "tuple_iterator", data := .fields #[.ref l, .int 0 0] }).push { cls := .type "enumerate", data := .fields #[.none, .bool false, .ref s.heap.objs.size, rawInt 0, .none, .none] } }) :=
  .of_wp fun prog w A R s hq => by
    obtain ⟨hp, g, d, tk, os⟩ := s
    obtain ⟨hl, hq⟩ := hq
    have hsub := sub_enumerate
    have hT : Heap.IsTuple (Shared.heap ⟨hp, g, d, tk, os⟩) l items := ⟨_, hl, rfl, n, rfl⟩
    wp_walk using AutoSeq1.wpAny_loadPart' hl
    refine wpAny_stack_any fun st => wpAny_pure ?_
    split
    · rename_i c _ _ _ _ _
      cases (c == Value.type "enumerate") <;>
      · wp_walk using AutoSeq1.wpAny_loadPart' hl, wpAny_pyIter_tuple hT
        exact ⟨_, rfl, hq⟩
    · wp_walk using AutoSeq1.wpAny_loadPart' hl, wpAny_pyIter_tuple hT
      exact ⟨_, rfl, hq⟩
section
variable {prog : Program} {w : World} {A : Around} {E : Value → Shared → Prop} {s : Shared}
theorem call_enumT {l : Addr} {items : Array Value} {Q : Value → Shared → Prop} (hT : s.heap.IsTuple l items)
    (k : ∀ h', IsEnum h' (s.heap.objs.size + 1) s.heap.objs.size 0 .none → h'.IsTupleIter s.heap.objs.size l 0 →
      (∀ b o, s.heap.get? b = some o → h'.get? b = some o) → Q (.ref (s.heap.objs.size + 1)) { s with heap := h' }) :
    wpAny (model prog w) A (call (.type "enumerate") [.ref l]) Q E s := by
  obtain ⟨⟨c, dct, dt, sl⟩, hl, hc, n, hd⟩ := hT
  simp only at hc hd
  subst hc hd
  refine callType_new F.called_enumerate (by decide) (F.typeCall_enumerate_1 _) (F.newCall_enumerate_1 _) (fun obj => F.args_object_init_2 obj _) F.entry_enumerate_new
    (meets_enumT l items n dct sl) ⟨hl, ?_⟩
  have hz : (s.heap.push { cls := .type "tuple_iterator", data := .fields #[.ref l, .int 0 0] }).objs.size = s.heap.objs.size + 1 := Heap.size_push ..
  show _ ∧ _
  rw [hz]
  have he : IsEnum ((s.heap.push { cls := .type "tuple_iterator", data := .fields #[.ref l, .int 0 0] }).push
      { cls := .type "enumerate", data := .fields #[.none, .bool false, .ref s.heap.objs.size, rawInt 0, .none, .none] }) (s.heap.objs.size + 1) s.heap.objs.size 0 .none := by
    have q := Heap.get?_push_size (s.heap.push { cls := .type "tuple_iterator", data := .fields #[.ref l, .int 0 0] })
      (o := { cls := .type "enumerate", data := .fields #[.none, .bool false, .ref s.heap.objs.size, rawInt 0, .none, .none] }) rfl
    rw [hz] at q
    exact q
  exact ⟨⟨_, he, rfl⟩, k _ he ⟨_, Heap.get?_push_of_some _ (Heap.get?_push_size _ rfl), rfl, rfl⟩ fun b o y => Heap.get?_push_of_some _ (Heap.get?_push_of_some _ y)⟩
end
theorem turn_enumT {P : Program} {w : World} {K : PySem.W.Frag} {elts : List Expr} {kk : Nat} {tpos : Pos} (a e it : Addr) (hei : e ≠ it) (hae : a ≠ e) (hai : a ≠ it) :
    Turn P w K (.Tuple elts kk tpos) (ItetT K a) [e, it] e (fun i h => (∃ old, IsEnum h e it ((i : Nat) : Int) old) ∧ h.IsTupleIter it a i) where
  mem := by simp
  obj := fun i h st b hb => by
    obtain ⟨⟨old, he⟩, ⟨o, ho, hc, hd⟩⟩ := st
    rcases (show b = e ∨ b = it by simpa using hb) with rfl | rfl
    · exact ⟨_, he, fun v q => nomatch q⟩
    · exact ⟨o, ho, fun v q => by rw [hd] at q; cases q⟩
  keep := fun i h h' st k => ⟨let ⟨old, he⟩ := st.1; ⟨old, k e (by simp) _ he⟩, st.2.at fun o q => k it (by simp) o q⟩
  item := by
    intro X hP hw hK hc i pins s σ H E I hf st hg
    subst hP hw hK
    obtain ⟨⟨old, he⟩, hit⟩ := st
    obtain ⟨xs, x, hq, hx⟩ := hg
    obtain ⟨its, rv, p, hz⟩ := I.tuple hq
    have pT : s.heap.IsTuple a its.toArray := p
    obtain ⟨u, hu, ru⟩ := rv.get hx
    have hel : e < s.heap.objs.size := Heap.lt_size he
    have hil : it < s.heap.objs.size := by obtain ⟨_, q, _⟩ := hit; exact Heap.lt_size q
    have hin : i < its.toArray.size := by
      have := (List.getElem?_eq_some_iff.mp hu).1
      simpa using this
    refine wpAny_pyNext_enum_itemC (Draws.tuple (A := X.A.in1) (I.ok.hd hc) it a hai its.toArray) he ⟨hit, pT⟩ hin hei (by simp [hei, Ne.symm hae]) fun y h' tk hy ho hst hT hsz hk => ?_
    have ey : y = u := by
      have q : its.toArray[i]? = some u := by simpa using hu
      rw [q] at hy
      exact (Option.some.inj hy).symm
    subst ey
    refine ⟨_, rfl, wpAny_letOwnedTupleGo_enum (s := { s with heap := h', toks := tk + 1 }) ho fun h'' he' sb => ?_⟩
    have hT2 : h''.get? s.heap.objs.size = some { cls := .type "tuple", data := .seq #[.int i tk, y] } := (sb.2 _ (Nat.ne_of_gt hel)).trans hT
    have new : ObjOk X.prog X.w (upd H s.heap.objs.size (.tup [.int (i : Nat), x])) h'' s.heap.objs.size (.tup [.int (i : Nat), x]) :=
      ⟨by show 2 ≤ sizeLine; decide, [.int i tk, y], .cons ⟨_, rfl⟩ (.cons ru .nil), ⟨_, hT2, rfl, _, rfl⟩⟩
    have I1 : Inv X pins σ (upd H s.heap.objs.size (.tup [.int (i : Nat), x])) { s with heap := h'', toks := tk + 1 } :=
      I.turnedNew (ch := [e, it]) (fun b ob hb q => (sb.2 b fun z => hb (by simp [z])).trans (hk b ob (fun z => hb (by simp [z])) (fun z => hb (by simp [z])) q)) hf (Nat.le_refl _) new
    refine ⟨.ref s.heap.objs.size, _, I1, rfl, ⟨_, x, rfl, I.hok.fresh (Nat.le_refl _), rfl, fun ys hy => by rw [I.tuple_inj hy hq]; exact hx⟩, ⟨⟨y, ?_⟩, hst.1.at fun o q => (sb.2 it (Ne.symm hei)).trans q⟩, fun b hb => ?_⟩
    · have e1 : ((i + 1 : Nat) : Int) = (i : Int) + 1 := by omega
      rw [e1]
      exact he'
    · have hb' : b < s.heap.objs.size := by
        rcases (show b = e ∨ b = it by simpa using hb) with rfl | rfl
        · exact hel
        · exact hil
      rw [upd_ne (Nat.ne_of_lt hb')]
      exact (hf b hb).1
  done := by
    intro X hP hw hK hc i pins s σ H E I hf st hg
    subst hP hw hK
    obtain ⟨⟨old, he⟩, hit⟩ := st
    obtain ⟨xs, hq, hx⟩ := hg
    obtain ⟨its, rv, p, hz⟩ := I.tuple hq
    have pT : s.heap.IsTuple a its.toArray := p
    obtain ⟨f0, f1, f2, f3, f4, f5⟩ := hf it (by simp)
    have hl := rv.length
    have eT : s.TypeIs (.ref e) "enumerate" := ⟨_, he, rfl⟩
    have none_at : its.toArray[i]? = none := by simp; omega
    unfold pyNext
    refine wpAny_bind (wpAny_attempt (wpAny_callSpecial?_slot (name := Str.ofString "__next__") eT F.slot_enumerate_next (wpAny_call_entry F.slot_enumerate_next eT F.entry_enumerate_next ?_ (F.args_enumerate_next_1 _))))
    show wpAny _ _ (field (.ref e) 2 >>= _) _ _ _
    refine wpAny_bind (wpAny_field he rfl (x := .ref it) rfl ?_)
    refine wpAny_bind (wpAny_nextOf_tuple_end (A := X.A.in1) (I.ok.hd hc) hit pT none_at fun h' x eb ⟨o, ho, hcl⟩ => ?_)
    refine wpAny_bind (wpAny_isInstance (T := "StopIteration") (b := true) ⟨o, ho, hcl⟩ isSubtype_stop ?_)
    exact wpAny_pure ⟨rfl, I.turned (t' := s.toks) (fun b o hb q => eb b o hb q) f0 f1 f3 f4 f5⟩
  self := fun A i s Q E st h => let ⟨_, he⟩ := st.1; wpAny_pyIter_enum he h
def iEnumT (K : PySem.W.Frag) (ta : TA) : TI := fun σ H R => ta σ H fun vs H1 => ∃ a xs, vs = [.ref a] ∧ SqT K H1 a xs ∧ R (ItetT K a) H1
theorem pi_enumT {X : Cx} {e : Expr} {ta : TA} {p pos tpos : Pos} {elts : List Expr} {kk : Nat} (hg : Gl X "enumerate") (hm : X.mg "enumerate" = none) (ha : PA X [e] ta)
    (hs : starEach [e] X.env = [(false, eval e X.env)] := by rfl) : PI X (.Tuple elts kk tpos) (.Call (.Name "enumerate" p) [e] [] pos) (iEnumT X.K ta) := by
  refine ⟨fun pins s σ H R I hq => ?_⟩
  refine Call_ (ld_blt I hg hm boot_enumerate (PyProof.Rows.callWith_type1 (thn (ha.run pos pins s σ H _ I hq) fun us s1 ⟨vs, H1, I1, r1, a, xs, ex, hT, q⟩ => ?_) hs rfl))
  subst ex
  rw [Vals.ref1 r1]
  obtain ⟨its, rv, p', hz⟩ := I1.tuple hT
  have pT : s1.heap.IsTuple a its.toArray := p'
  have al : a < s1.heap.objs.size := by obtain ⟨_, q, _⟩ := pT; exact Heap.lt_size q
  refine call_enumT pT fun h' he hit hk => wpAny_pyIter_enum he ?_
  have I2 : Inv X pins σ H1 { s1 with heap := h' } := I1.kept (t' := s1.toks) hk
  refine ⟨s1.heap.objs.size + 1, [s1.heap.objs.size + 1, s1.heap.objs.size], _, _, H1, rfl, I2, turn_enumT a (s1.heap.objs.size + 1) s1.heap.objs.size (Nat.succ_ne_self _) (Nat.ne_of_lt (Nat.lt_succ_of_lt al)) (Nat.ne_of_lt al), ⟨⟨.none, he⟩, hit⟩, fun b hb => ?_, q⟩
  have hle : s1.heap.objs.size ≤ b := by
    rcases (show b = s1.heap.objs.size + 1 ∨ b = s1.heap.objs.size by simpa using hb) with rfl | rfl
    · exact Nat.le_succ _
    · exact Nat.le_refl _
  exact I1.fpOk hle (I1.hok.fresh hle)
theorem walk_enumT {K : PySem.W.Frag} {a : Addr} {xs : List V} : Walk (ItetT K a) xs.length (fun H => SqT K H a xs) (YPair (fun i => some (.int (i : Nat))) (fun i => xs[i]?)) := by
  refine ⟨fun i _ hi q => ⟨xs, xs[i], q, by simp [hi]⟩, fun _ q => ⟨xs, q, Nat.le_refl _⟩, fun i H v H' _ q y => ?_⟩
  obtain ⟨T, x, z1, z2, z3, z4⟩ := y
  exact ⟨T, .int (i : Nat), x, z1, z2, z3, rfl, z4 xs q⟩

/-! ### d.values(), d a dict whose keys are tuples, locked -/
def ItdT (d : Addr) (o : Obj) (kvs : List (List Key × V)) : It :=
  ⟨fun i H => H d = some (.frz o (.dT kvs)) ∧ i < kvs.length, fun i H x H' => H' = H ∧ ∃ k, kvs[i]? = some (k, x), fun i H => H d = some (.frz o (.dT kvs)) ∧ kvs.length ≤ i⟩
theorem frzT_vals {X : Cx} {pins : List (Addr × Obj)} {σ : L2.St} {H : Hp} {s : Shared} {d : Addr} {o : Obj} {kvs : List (List Key × V)} (I : Inv X pins σ H s) (hd : H d = some (.frz o (.dT kvs))) :
    (d == sysModules) = false ∧ s.heap.get? d = some o ∧ o.ExactDict ∧ ∃ (es : Array DictEntry) (ep : Nat), o.data = .dict es ep ∧ es.size = kvs.length ∧ ∀ (i : Nat) (k : List Key) (v : V), kvs[i]? = some (k, v) → ∃ en : DictEntry, es[i]? = some en ∧ RelV v en.val := by
  obtain ⟨hg, z, hs, xs, pr, o', es, ep, ho, hx, hdt, he, _⟩ := I.hok d _ hd
  rw [hg] at ho
  cases ho
  have l1 : es.size = xs.length := size_of_entries he
  have l2 : kvs.length = xs.length := Paired.length pr
  refine ⟨hs, hg, hx, es, ep, hdt, by omega, fun i k v e => ?_⟩
  obtain ⟨b, hb, e1, e2, e3⟩ := L2.paired_get pr e
  have q := entry_at he i
  rw [hb] at q
  exact ⟨_, q, e3⟩
theorem turn_valsT {P : Program} {w : World} {K : PySem.W.Frag} {tg : Expr} {d : Addr} {o : Obj} {es : Array DictEntry} {ep : Nat} {kvs : List (List Key × V)} (it : Addr) (hod : o.data = .dict es ep) : Turn P w K tg (ItdT d o kvs) [it] it (fun i h => h.IsValIter it d i es.size ep) where
  mem := by simp
  obj := fun i h st b hb => by
    have e : b = it := by simpa using hb
    subst e
    obtain ⟨oi, e, c, dd⟩ := st
    exact ⟨oi, e, fun v z => by rw [dd] at z; cases z⟩
  keep := fun i h h' st k => st.at fun oi e => k it (by simp) oi e
  item := by
    intro X hP hw hK hc i pins s σ H E I hf st hg
    subst hP hw hK
    obtain ⟨hd, hi⟩ := hg
    obtain ⟨f0, f1, f2, f3, f4, f5⟩ := hf it (by simp)
    obtain ⟨hs, hgd, hx, es', ep', hdt, hsz, ent⟩ := frzT_vals I hd
    obtain ⟨rfl, rfl⟩ := dict_ep hod hdt
    have hkv : kvs[i]? = some (kvs[i].1, kvs[i].2) := List.getElem?_eq_getElem hi
    obtain ⟨en, hen, rv⟩ := ent i _ _ hkv
    obtain ⟨hlt, hel⟩ := Array.getElem?_eq_some_iff.mp hen
    refine wpAny_pyNext_values_item_raw st ⟨o, hgd, hx, hdt⟩ hlt fun h' st' sb => ?_
    have I1 : Inv X pins σ H { s with heap := h' } := I.turned (t' := s.toks) (fun b ob hb e => (sb.2 b hb).trans e) f0 f1 f3 f4 f5
    obtain ⟨oi, e, c, dd⟩ := id st'
    exact ⟨_, rfl, go_of (s := { s with heap := h' }) e c dd (by decide) ⟨kvs[i].2, H, I1, by rw [hel]; exact rv, ⟨rfl, kvs[i].1, hkv⟩, st', fun b hb => (hf b hb).1⟩⟩
  done := by
    intro X hP hw hK hc i pins s σ H E I hf st hg
    subst hP hw hK
    obtain ⟨hd, hi⟩ := hg
    obtain ⟨f0, f1, f2, f3, f4, f5⟩ := hf it (by simp)
    obtain ⟨hs, hgd, hx, es', ep', hdt, hsz, ent⟩ := frzT_vals I hd
    obtain ⟨rfl, rfl⟩ := dict_ep hod hdt
    exact wpAny_pyNext_values_end_raw (I.ok.hd hc) st ⟨o, hgd, hx, hdt⟩ (by omega) fun h' eb => ⟨rfl, I.turned (t' := s.toks) (fun b ob hb e => eb b ob hb e) f0 f1 f3 f4 f5⟩
  self := fun A i s Q E st h => wpAny_pyIter_valiter st h
def iValsT (td : TE) : TI := fun σ H R => td σ H fun x H1 => ∃ d o kvs, x = .ref d ∧ H1 d = some (.frz o (.dT kvs)) ∧ R (ItdT d o kvs) H1
theorem pi_valuesT {X : Cx} {tg e : Expr} {td : TE} {apos cpos : Pos} (he : PE X e td) (hbase : attributeBase e "values" X.env (eval e X.env) = eval e X.env := by rfl) (hline : (apos.endLine == cpos.line) = true := by rfl) :
    PI X tg (.Call (.Attribute e "values" apos) [] [] cpos) (iValsT td) := by
  refine ⟨fun pins s σ H R I hq => ?_⟩
  refine wpAny_Call_method (T := "dict") (id := "dict.values") hbase rfl hline F.plainAttrs_dict F.slot_dict_values F.type_dict_values (thn (he.run pins s σ H _ I hq) fun u s1 ⟨x, H1, I1, rx, d, o, kvs, ex, hd, q⟩ => ?_)
  subst ex
  obtain rfl : u = Value.ref d := rx
  obtain ⟨hs, hgd, hx, es, ep, hdt, hsz, ent⟩ := frzT_vals I1 hd
  have raw : s1.heap.DictRaw d es ep := ⟨o, hgd, hx, hdt⟩
  refine ⟨raw.typeIs, fun c ec => ⟨o, by cases ec; exact hgd, hx.2.1⟩, ?_⟩
  have I2 : Inv X pins σ H1 { s1 with heap := s1.heap.push { cls := .type "dict_values", data := .fields #[.ref d] } } := I1.kept (t' := s1.toks) fun b ob z => Heap.get?_push_of_some _ z
  have fin : wpAny (model X.prog X.w) X.A (pyIter (.ref s1.heap.objs.size)) (PIE X pins σ tg R) X.xe { s1 with heap := s1.heap.push { cls := .type "dict_values", data := .fields #[.ref d] } } :=
    wpAny_pyIter_values_raw (d := d) ⟨_, Heap.get?_push_size _ rfl, rfl, rfl⟩ (raw.push _) (pi_one (tk := s1.toks) I2 _ (turn_valsT _ hdt) ⟨_, Heap.get?_push_size _ rfl, rfl, rfl⟩ q)
  show wpAny _ _ (callWith cpos (.builtin "dict.values") [.ref d] [] []) _ X.xe s1
  exact method_meetsIn F.slot_dict_values F.entry_dict_values rfl (PySem.evalArgs_none ⟨rfl, raw.typeIs, F.args_dict_values_1 _, _, meets_dict_values_raw d hs, ⟨⟨es, ep, raw⟩, fin⟩⟩)
theorem walk_valuesT {d : Addr} {o : Obj} {kvs : List (List Key × V)} : Walk (ItdT d o kvs) kvs.length (fun H => H d = some (.frz o (.dT kvs))) (fun i H x H' => H' = H ∧ ∃ k, kvs[i]? = some (k, x)) :=
  ⟨fun _ _ hi q => ⟨q, hi⟩, fun _ q => ⟨q, Nat.le_refl _⟩, fun _ _ _ _ _ _ y => y⟩
end WayR
/-! Rules that the layer lacks, 2: sorted(d.keys()), dict(pairs), a dict comprehension; all with keys that are tuples. -/
namespace WayR
open PySem PySem.Spec PyProof.Rows L2

/-! ### d.keys() as a value, sorted of it -/
def keysO (p d : Addr) : HO := .ext fun h => PySem.W.KdlKeysView h p d
theorem keysO_ok {P : Program} {w : World} {H : Hp} {h : Heap} {p d : Addr} (e : h.get? p = some { cls := .type "dict_keys", data := .fields #[.ref d] }) : ObjOk P w H h p (keysO p d) :=
  ⟨⟨_, e, rfl, rfl⟩, ⟨_, e⟩, fun h1 h2 x k => let ⟨o, ho, r⟩ := x; ⟨o, k o ho, r⟩⟩
/-- the dict's own object -/
theorem dT_raw {X : Cx} {pins : List (Addr × Obj)} {σ : L2.St} {H : Hp} {s : Shared} {d : Addr} {kvs : List (List Key × V)} (I : Inv X pins σ H s) (hd : H d = some (.dT kvs)) :
    (d == sysModules) = false ∧ kvs.length ≤ sizeLine ∧ ∃ (es : Array DictEntry) (ep : Nat), s.heap.DictRaw d es ep ∧ es.size = kvs.length ∧
      ∀ (i : Nat) (k : List Key) (v : V), kvs[i]? = some (k, v) → ∃ (en : DictEntry) (q : Addr), es[i]? = some en ∧ en.key = .ref q ∧ H q = some (.tup (k.map kV)) := by
  obtain ⟨z, hs, xs, pr, o, es, ep, ho, hx, hdt, he, _⟩ := I.hok d _ hd
  have l1 : es.size = xs.length := size_of_entries he
  have l2 : kvs.length = xs.length := Paired.length pr
  refine ⟨hs, z, es, ep, ⟨o, ho, hx, hdt⟩, by omega, fun i k v e => ?_⟩
  obtain ⟨b, hb, e1, e2, _⟩ := L2.paired_get pr e
  have q := entry_at he i
  rw [hb] at q
  exact ⟨_, b.2.1, q, rfl, e2⟩
def rKeysT : V → List V → Hp → VK → Prop := fun x xs H Q => ∃ (a : Addr) (kvs : List (List Key × V)), x = .ref a ∧ xs = [] ∧ H a = some (.dT kvs) ∧ ∀ p, H p = none → Q (.ref p) (upd H p (keysO p a))
theorem mt_keysT {X : Cx} : MtR X "dict.keys" rKeysT := by
  intro pins s σ H x xs v us Q I rx rxs hq
  obtain ⟨a, kvs, rfl, rfl, ha, q⟩ := hq
  cases rx
  cases rxs
  obtain ⟨hs, _, es, ep, raw, _⟩ := dT_raw I ha
  refine call_meetsIn F.slot_dict_keys raw.typeIs F.entry_dict_keys (F.args_dict_keys_1 _) (meets_dict_keys_raw a hs) ⟨⟨es, ep, raw⟩, ?_⟩
  exact ⟨.ref s.heap.objs.size, upd H s.heap.objs.size (keysO s.heap.objs.size a), I.laid (t' := s.toks) (fun b u e => Heap.get?_push_of_some _ e) (Nat.le_refl _) (keysO_ok (Heap.get?_push_size _ rfl)), rfl, q _ (I.hok.fresh (Nat.le_refl _))⟩
section
variable {prog : Program} {w : World} {A : Around} {E : Value → Shared → Prop} {s : Shared} {r d : Addr} {es : Array DictEntry} {ep : Nat}
/-- the keys gathered into a list of the machine's own -/
theorem collectK {R : List Value → Shared → Prop} (hh : A.handled = none) (hv : PySem.W.KdlKeysView s.heap r d) (hm : s.heap.DictRaw d es ep) (hn : es.size ≤ sizeLine)
    (k : ∀ (h' : Heap) (tk : Nat), (∀ b o, s.heap.get? b = some o → h'.get? b = some o) → s.heap.objs.size < h'.objs.size → R (es.toList.map (·.key)) { s with heap := h', toks := tk }) :
    wpAny (model prog w) A (collect (.ref r)) R E s := by
  have hr : r < s.heap.objs.size := let ⟨_, ho, _⟩ := hv; Heap.lt_size ho
  have hd : d < s.heap.objs.size := hm.lt_size
  unfold collect
  refine wpAny_bind (wpAny_runValue (codeAny_builtin entry_proto_collect' ?_))
  rw [Around.under_plainId F.plain_proto_collect _]
  show wpAny _ A.in1 (newList [] >>= fun l => again (.builtin "list.__iadd__" ⟨[l, .ref r], []⟩)) _ _ s
  refine wpAny_bind (wpAny_newObj_type ?_)
  refine wpAny_pure ⟨plainId_quiet F.plain_list_iadd _, codeAny_builtin entry_list_iadd' ?_⟩
  rw [Around.under_plainId F.plain_list_iadd _]
  generalize hp1 : s.heap.push { cls := .type "list", data := .seq ([] : List Value).toArray } = hp
  have new : hp.get? s.heap.objs.size = some { cls := .type "list", data := .seq #[] } := by rw [← hp1]; exact Heap.get?_push_size _ rfl
  have old : ∀ b o, s.heap.get? b = some o → hp.get? b = some o := fun b o e => by rw [← hp1]; exact Heap.get?_push_of_some _ e
  show wpAny _ A.in1 (Builtin.List.listExtendWith (.ref s.heap.objs.size) (.ref r) (.ref s.heap.objs.size)) _ _ _
  have key := PySem.W.kdl_extend (prog := prog) (w := w) (A := A) (s := { s with heap := hp }) (KdlSrc.rawKeys (r := r) (d := d) (es := es) (ep := ep))
    (R := fun (q : Result) (s' : Shared) => ∃ (h' : Heap) (tk : Nat) (acc : Array Value) (c : Nat), q = .ok (.ret (.ref s.heap.objs.size)) ∧ s' = { s with heap := h', toks := tk } ∧
      (∀ b o, s.heap.get? b = some o → h'.get? b = some o) ∧ h'.get? s.heap.objs.size = some { cls := .type "list", dict := none, data := .seq acc c, slots := #[] } ∧ acc.toList = es.toList.map (·.key))
    hh ⟨let ⟨o, ho, x⟩ := hv; ⟨o, old _ _ ho, x⟩, hm.at fun o e => old d o e⟩ s.heap.objs.size (Nat.ne_of_gt hr) (Nat.ne_of_gt hd) (.ref s.heap.objs.size) 0 new
    (fun h' tk acc c keep hS items => ⟨h', tk, acc, c, rfl, rfl, fun b o e => keep b o (Nat.ne_of_lt (Heap.lt_size e)) (old b o e), hS, ?_⟩) hn
  · refine wpAny_mono key (fun fin s' x => ?_) fun e s' x => ?_
    · cases fin with
      | done f =>
        obtain ⟨h', tk, acc, c, e, rfl, keep, hS, hacc⟩ := x
        cases e
        show wpAny _ A (load s.heap.objs.size >>= _) _ _ _
        refine wpAny_bind (wpAny_load hS (wpAny_pure ?_))
        show R acc.toList _
        rw [hacc]
        exact k h' tk keep (Heap.lt_size hS)
      | again c₁ =>
        refine ⟨x.1, codeAny_mono x.2 fun q s₂ y => ?_⟩
        obtain ⟨h', tk, acc, c, rfl, rfl, keep, hS, hacc⟩ := y
        show wpAny _ A (load s.heap.objs.size >>= _) _ _ _
        refine wpAny_bind (wpAny_load hS (wpAny_pure ?_))
        show R acc.toList _
        rw [hacc]
        exact k h' tk keep (Heap.lt_size hS)
    · obtain ⟨_, _, _, _, e', _⟩ := x
      cases e'
  · obtain ⟨z1, z2⟩ := items
    refine List.ext_getElem? fun i => ?_
    rw [List.getElem?_map, Array.getElem?_toList, Array.getElem?_toList]
    by_cases hi : i < es.size
    · have hi2 : i < acc.size := by omega
      obtain ⟨_, e⟩ := z2 i acc[i] (Array.getElem?_eq_getElem hi2)
      rw [Array.getElem?_eq_getElem hi2, Array.getElem?_eq_getElem hi, e]
      rfl
    · rw [Array.getElem?_eq_none (by omega), Array.getElem?_eq_none (by omega)]
      rfl
/-- sorted(d.keys()) up to the sort -/
theorem sortedK {Q : Value → Shared → Prop} (hh : A.handled = none) (hv : PySem.W.KdlKeysView s.heap r d) (hm : s.heap.DictRaw d es ep) (hn : es.size ≤ sizeLine)
    (k : ∀ (h' : Heap) (tk : Nat), (∀ b o, s.heap.get? b = some o → h'.get? b = some o) → s.heap.objs.size < h'.objs.size →
      wpAny (model prog w) A.in1 (call (.builtin "list.sort") [.ref h'.objs.size]) (fun _ s' => Q (.ref h'.objs.size) s') E { s with heap := h'.push { cls := .type "list", data := .seq (es.toList.map (·.key)).toArray }, toks := tk }) :
    wpAny (model prog w) A (call (.builtin "sorted") [.ref r]) Q E s := by
  refine Calls.call_function_entry kind_sorted plain_sorted entry_sorted (args_sorted1 _) ?_
  unfold Builtin.«sorted»
  refine wpAny_bind (m := checkCount "sorted" 1 1 _) (wpAny_pure ?_)
  refine wpAny_bind (collectK (A := A.in1) (es := es) (ep := ep) hh hv hm hn fun h' tk keep hlt => ?_)
  refine wpAny_bind (wpAny_newList ?_ (by rw [List.length_map, Array.length_toList]; exact hn))
  have hg := k h' tk keep hlt
  refine wpAny_bind (wpAny_holding (wpAny_mono hg (fun _ s' x => ?_) fun _ _ e => e))
  exact wpAny_pure ⟨_, rfl, x⟩
end
/-- sorted(d.keys()), the keys pairs of ints (k says which): a new list of the keys' own tuples, ascending -/
def rSortKeysT : List V → Hp → VK → Prop := fun vs H Q => ∃ (p d : Addr) (kvs : List (List Key × V)) (ks : List (Int × Int)), vs = [.ref p] ∧ H p = some (keysO p d) ∧ H d = some (.dT kvs) ∧ kvs.map (·.1) = ks.map (fun q => [Sum.inl q.1, Sum.inl q.2]) ∧
  ∀ (l : Addr) (L : List (Addr × Int × Int)), (L.map (·.2)).Perm ks → L.Pairwise (fun a b => a.2.1 < b.2.1 ∨ (a.2.1 = b.2.1 ∧ a.2.2 ≤ b.2.2)) → (∀ q ∈ L, H q.1 = some (.tup [.int q.2.1, .int q.2.2])) → H l = none → Q (.ref l) (upd H l (.lst (L.map fun q => V.ref q.1)))
theorem zip_maps {α β : Type} : ∀ {as : List α} {bs : List β}, as.length = bs.length → (as.zip bs).map (·.1) = as ∧ (as.zip bs).map (·.2) = bs
  | [], [], _ => ⟨rfl, rfl⟩
  | [], _ :: _, h => by simp at h
  | _ :: _, [], h => by simp at h
  | a :: as, b :: bs, h => by
    obtain ⟨z1, z2⟩ := zip_maps (as := as) (bs := bs) (by simpa using h)
    exact ⟨by rw [List.zip_cons_cons, List.map_cons, z1], by rw [List.zip_cons_cons, List.map_cons, z2]⟩
def decA (H : Hp) (a : Addr) : Int × Int := match H a with
  | some (.tup [.int x, .int y]) => (x, y)
  | _ => (0, 0)
def refA : Value → Addr
  | .ref a => a
  | _ => 0
theorem cr_sortedKeysT {X : Cx} (hc : X.calm = true) : CallR X (.builtin "sorted") rSortKeysT := by
  intro pins s σ H vs us Q I r hq
  obtain ⟨p, d, kvs, ks, rfl, hp, hd, hks, q⟩ := hq
  obtain rfl := Vals.ref1 r
  have view : PySem.W.KdlKeysView s.heap p d := (show ObjOk X.prog X.w H s.heap p (keysO p d) from I.hok p _ hp).1
  obtain ⟨hs, hz, es, ep, raw, hsz, ent⟩ := dT_raw I hd
  have hh : X.A.handled = none := I.ok.hd hc
  have lk : kvs.length = ks.length := by
    have e := congrArg List.length hks
    rw [List.length_map, List.length_map] at e
    exact e
  -- the keys with their addresses
  have addrs : ∃ as : List Addr, es.toList.map (·.key) = as.map Value.ref ∧ as.length = ks.length ∧ ∀ (i : Nat) (a : Addr) (q : Int × Int), as[i]? = some a → ks[i]? = some q → H a = some (.tup [.int q.1, .int q.2]) := by
    have at_ : ∀ i : Nat, i < kvs.length → ∃ (en : DictEntry) (b : Addr) (z : Int × Int), es[i]? = some en ∧ en.key = .ref b ∧ ks[i]? = some z ∧ H b = some (.tup [.int z.1, .int z.2]) := fun i hi => by
      have hkv : kvs[i]? = some (kvs[i].1, kvs[i].2) := List.getElem?_eq_getElem hi
      obtain ⟨en, b, e1, e2, e3⟩ := ent i _ _ hkv
      have hz : ks[i]? = some ks[i] := List.getElem?_eq_getElem (by omega)
      have e4 : (kvs.map (·.1))[i]? = some kvs[i].1 := by rw [List.getElem?_map, hkv]; rfl
      rw [hks, List.getElem?_map, hz] at e4
      have e5 : [Sum.inl ks[i].1, Sum.inl ks[i].2] = kvs[i].1 := Option.some.inj e4
      exact ⟨en, b, ks[i], e1, e2, hz, by rw [← e5] at e3; exact e3⟩
    refine ⟨(List.range kvs.length).map fun i => match es[i]? with
      | some en => (match en.key with | .ref b => b | _ => 0)
      | none => 0, ?_, by simp [lk], fun i a z h1 h2 => ?_⟩
    · refine List.ext_getElem? fun i => ?_
      rw [List.getElem?_map, List.getElem?_map, List.getElem?_map, Array.getElem?_toList]
      by_cases hi : i < kvs.length
      · obtain ⟨en, b, z, e1, e2, e3, e4⟩ := at_ i hi
        rw [List.getElem?_range hi, e1]
        simp [e1, e2]
      · rw [Array.getElem?_eq_none (by omega), List.getElem?_eq_none (by simpa using Nat.le_of_not_lt hi)]
        rfl
    · by_cases hi : i < kvs.length
      · obtain ⟨en, b, z', e1, e2, e3, e4⟩ := at_ i hi
        rw [List.getElem?_map, List.getElem?_range hi] at h1
        simp [e1, e2] at h1
        rw [h2] at e3
        cases e3
        rw [← h1]
        exact e4
      · rw [List.getElem?_eq_none (by simpa using Nat.le_of_not_lt hi)] at h1
        cases h1
  obtain ⟨as, eas, las, hat⟩ := addrs
  refine sortedK (es := es) (ep := ep) hh view raw (by omega) fun h' tk keep hlt => ?_
  rw [eas]
  generalize hp2 : h'.push { cls := .type "list", data := .seq (as.map Value.ref).toArray } = h2
  have hob : h2.get? h'.objs.size = some (seqObj "list" (as.map Value.ref).toArray 0) := by rw [← hp2]; exact Heap.get?_push_size _ rfl
  have ka : ∀ b o, h'.get? b = some o → h2.get? b = some o := fun b o e => by rw [← hp2]; exact Heap.get?_push_of_some _ e
  have ne0 : ∀ b o, h'.get? b = some o → b ≠ h'.objs.size := fun b o e => Nat.ne_of_lt (Heap.lt_size e)
  -- the pair at an address
  have pr : ∀ a ∈ as, Srt.IsPair h2 (.ref a) (decA H a).1 (decA H a).2 ∧ H a = some (.tup [.int (decA H a).1, .int (decA H a).2]) := fun a ha => by
    obtain ⟨i, hi⟩ := List.mem_iff_getElem?.mp ha
    have hil : i < ks.length := by rw [← las]; exact (List.getElem?_eq_some_iff.mp hi).1
    have hT := hat i a ks[i] hi (List.getElem?_eq_getElem hil)
    have ed : decA H a = ks[i] := by unfold decA; rw [hT]
    obtain ⟨_, its, rr, o, ho, hcl, n, hdt⟩ := I.hok _ _ hT
    obtain ⟨u1, u2, rfl, ri, rj⟩ := vals2 rr
    obtain ⟨t1, rfl⟩ := ri
    obtain ⟨t2, rfl⟩ := rj
    rw [ed]
    exact ⟨⟨a, o, t1, t2, n, rfl, ka _ _ (keep _ _ ho), hcl, hdt⟩, hT⟩
  have eks : as.map (decA H) = ks := by
    refine List.ext_getElem? fun i => ?_
    rw [List.getElem?_map]
    cases hi : as[i]? with
    | none =>
      have := List.getElem?_eq_none_iff.mp hi
      rw [List.getElem?_eq_none (by omega)]
      rfl
    | some a =>
      have hil : i < ks.length := by rw [← las]; exact (List.getElem?_eq_some_iff.mp hi).1
      have hT := hat i a ks[i] hi (List.getElem?_eq_getElem hil)
      rw [List.getElem?_eq_getElem hil]
      show some (decA H a) = some ks[i]
      unfold decA
      rw [hT]
  refine wpAny_call_entry PyProof.Rows.slot_list_sort ⟨_, hob, rfl⟩ PyProof.Rows.entry_list_sort
    (SrtO.list_sort_ord (s := { s with heap := h2, toks := tk }) (SrtO.swo_lex fun u => decA H (refA u)) hob (by rw [List.length_map, las, ← lk]; exact hz)
      (fun h2' => SrtO.pairs_sortableO (s := { s with heap := h2, toks := tk }) (by omega) (fun v hv => ?_) fun o e => ?_) fun out h1 hb => ⟨.none, rfl, ?_⟩) (PyProof.Rows.args_list_sort _)
  · obtain ⟨a, ha, rfl⟩ := List.mem_map.mp hv
    exact (pr a ha).1
  · have e' : some o = some (seqObj "list" (as.map Value.ref).toArray 0) := e.symm.trans hob
    cases e'
    intro c
    exact absurd (Value.type.inj c) (by decide)
  · show EP X pins σ Q (.ref h'.objs.size) { s with heap := sortedHeap h2 h'.objs.size (as.map Value.ref) out.toArray, toks := tk }
    obtain ⟨c, eF⟩ := PyProof.Rows.sortedHeap_at (vs := as.map Value.ref) (out := out.toArray) hob
    have kF : ∀ b o, s.heap.get? b = some o → (sortedHeap h2 h'.objs.size (as.map Value.ref) out.toArray).get? b = some o := fun b o e => by
      have e2 := ka _ _ (keep b o e)
      rw [PyProof.Rows.sortedHeap_old (ne0 _ _ (keep b o e)) (Heap.lt_size e2)]
      exact e2
    have hn0 : H h'.objs.size = none := I.hok.fresh (Nat.le_of_lt hlt)
    have refs : ∀ v ∈ out, ∃ a, v = Value.ref a ∧ a ∈ as := fun v hv => by
      obtain ⟨a, ha, e⟩ := List.mem_map.mp (hb.perm.mem_iff.mp hv)
      exact ⟨a, e.symm, ha⟩
    have eout : out = (out.map refA).map Value.ref := by
      rw [List.map_map]
      refine (List.map_id out).symm.trans (List.map_congr_left fun v hv => ?_)
      obtain ⟨a, rfl, _⟩ := refs v hv
      rfl
    have pas : (out.map refA).Perm as := by
      have z := hb.perm.map refA
      have e : (as.map Value.ref).map refA = as := by
        rw [List.map_map]
        exact (List.map_congr_left fun a _ => rfl).trans (List.map_id as)
      rw [e] at z
      exact z
    have hlen : out.length ≤ sizeLine := by
      have z := hb.perm.length_eq
      rw [List.length_map] at z
      omega
    have rvo : Vals ((out.map refA).map V.ref) ((out.map refA).map Value.ref) := vals_maps V.ref Value.ref (out.map refA) fun _ _ => rfl
    rw [← eout] at rvo
    have I2 : Inv X pins σ (upd H h'.objs.size (.lst ((out.map refA).map V.ref))) { s with heap := sortedHeap h2 h'.objs.size (as.map Value.ref) out.toArray, toks := tk } :=
      I.laid (t' := tk) kF (Nat.le_of_lt hlt) ⟨by rw [List.length_map, List.length_map]; exact hlen, out, c, rvo, eF⟩
    have e2 : (((out.map refA).map fun a => (a, decA H a)).map fun q => V.ref q.1) = (out.map refA).map V.ref := by rw [List.map_map]; rfl
    have fin := q h'.objs.size ((out.map refA).map fun a => (a, decA H a)) (by
      rw [List.map_map]
      have z := pas.map (decA H)
      rw [eks] at z
      exact z) (by
      rw [List.pairwise_map, List.pairwise_map]
      exact List.Pairwise.imp (fun {x y} z => by
        have z := SrtO.lexB_no.mp z
        show (decA H (refA x)).1 < (decA H (refA y)).1 ∨ ((decA H (refA x)).1 = (decA H (refA y)).1 ∧ (decA H (refA x)).2 ≤ (decA H (refA y)).2)
        omega) h1) (fun z hz => by
      obtain ⟨a, ha, rfl⟩ := List.mem_map.mp hz
      exact (pr a (pas.mem_iff.mp ha)).2) hn0
    rw [e2] at fin
    exact ⟨.ref h'.objs.size, _, I2, rfl, fin⟩
end WayR
/-! Rules that the layer lacks, 3: dict(pairs), a dict comprehension; with keys that are tuples. -/
namespace WayR
open PySem PySem.Spec PyProof.Rows L2

/-! ### dict(ps), ps a list of pairs (key, value), each key a tuple -/
structure PairK where
  t : Addr
  k : List Key
  b : Addr
  v : V
def putAll (acc : List (List Key × V)) (ps : List PairK) : List (List Key × V) := ps.foldl (fun acc p => putK acc p.k p.v) acc
theorem length_putAll : ∀ (ps : List PairK) (acc : List (List Key × V)), (putAll acc ps).length ≤ acc.length + ps.length
  | [], acc => Nat.le_refl _
  | p :: ps, acc => by
    have h1 := length_putAll ps (putK acc p.k p.v)
    have h2 := length_putK acc p.k p.v
    show (putAll (putK acc p.k p.v) ps).length ≤ acc.length + (ps.length + 1)
    omega
def rDictPT (K : PySem.W.Frag) : List V → Hp → VK → Prop := fun xs H Q => ∃ (a : Addr) (ps : List PairK), xs = [V.ref a] ∧ SqL K H a (ps.map fun p => V.ref p.t) ∧ (∀ p ∈ ps, SqT K H p.t [V.ref p.b, p.v] ∧ H p.b = some (.tup (p.k.map kV))) ∧
  ∀ q, H q = none → Q (.ref q) (upd H q (.dT (putAll [] ps)))
theorem pairs_laid {X : Cx} {pins : List (Addr × Obj)} {σ : L2.St} {H : Hp} {s : Shared} (I : Inv X pins σ H s) : ∀ {ps : List PairK}, (∀ p ∈ ps, SqT X.K H p.t [V.ref p.b, p.v] ∧ H p.b = some (.tup (p.k.map kV))) →
    ∃ xs : List (List Key × Addr × Value), xs.length = ps.length ∧ (∀ (acc : List (List Key × V)) (ys : List (List Key × Addr × Value)), KT H acc ys → KT H (putAll acc ps) (storedAllH ys xs)) ∧
      ∀ (j : Nat) (x : List Key × Addr × Value), xs[j]? = some x → ∃ p : PairK, ps[j]? = some p ∧ x.1 = p.k ∧ x.2.1 = p.b ∧ s.heap.IsTuple p.t #[.ref x.2.1, x.2.2]
  | [], _ => ⟨[], rfl, fun acc ys r => r, fun j x e => by simp at e⟩
  | p :: ps, hp => by
    obtain ⟨xs, hl, hk, hx⟩ := pairs_laid I (ps := ps) fun q hq => hp q (List.mem_cons_of_mem _ hq)
    obtain ⟨hT, hb⟩ := hp p List.mem_cons_self
    obtain ⟨its, rv, ht, _⟩ := I.tuple hT
    obtain ⟨u, y, ei, ru, ry⟩ := vals2 rv
    subst ei
    obtain rfl : u = Value.ref p.b := ru
    refine ⟨(p.k, p.b, y) :: xs, by rw [List.length_cons, List.length_cons, hl], fun acc ys r => ?_, fun j x e => ?_⟩
    · show KT H (putAll (putK acc p.k p.v) ps) (storedAllH (storedH ys p.k p.b y) xs)
      exact hk _ _ (r.put p.k hb ry)
    · cases j with
      | zero =>
        have e' : (p.k, p.b, y) = x := Option.some.inj e
        subst e'
        exact ⟨p, rfl, rfl, rfl, ht⟩
      | succ j =>
        obtain ⟨q, e1, e2⟩ := hx j x (by simpa using e)
        exact ⟨q, by simpa using e1, e2⟩
theorem call_dictPT {X : Cx} (hcalm : X.calm = true) (hu : X.A.units + 64 < cLine) : CallR X (.type "dict") (rDictPT X.K) := by
  intro pins s σ H xs us Q I r hq
  obtain ⟨a, ps, rfl, hS, hp, q⟩ := hq
  rw [Vals.ref1 r]
  obtain ⟨its, rv, pl, hz⟩ := I.list hS
  rw [List.length_map] at hz
  have ei : its = (ps.map (·.t)).map Value.ref := by
    have e : ps.map (fun p => V.ref p.t) = (ps.map (·.t)).map V.ref := by rw [List.map_map]; rfl
    rw [e] at rv
    exact refs_at rv
  obtain ⟨xs, hl, hk, hx⟩ := pairs_laid I hp
  obtain ⟨o, n, ho, hc, hd, hdat⟩ := pl
  have ok : PlainSeq "list" s.heap a its.toArray ∧ PairItems s.heap its.toArray (fun j => (ps.map (·.t)).getD j 0) (xs.map fun x => (Value.ref x.2.1, x.2.2)) := by
    refine ⟨⟨o, n, ho, hc, hd, hdat⟩, by rw [ei]; simp [hl], fun j k v hj => ?_⟩
    rw [List.getElem?_map] at hj
    cases hxj : xs[j]? with
    | none =>
      rw [hxj] at hj
      cases hj
    | some x =>
      rw [hxj] at hj
      cases hj
      obtain ⟨p, e1, e2, e3, e4⟩ := hx j x hxj
      have et : (ps.map (·.t))[j]? = some p.t := by rw [List.getElem?_map, e1]; rfl
      have eg : (ps.map (·.t)).getD j 0 = p.t := by rw [List.getD, et]; rfl
      show its.toArray[j]? = some (Value.ref ((ps.map (·.t)).getD j 0)) ∧ PairAt s.heap ((ps.map (·.t)).getD j 0) (.ref x.2.1) x.2.2
      rw [eg, ei]
      exact ⟨by simp [e1], .inl e4⟩
  have big : (s.heap.objs.size == sysModules) = false := beq_eq_false_iff_ne.mpr (Nat.ne_of_gt I.big)
  refine call_dict_pairsH (knd := tupleKind (mixKind X.prog X.w)) (ps := xs) (PairArg.list a its.toArray (fun j => (ps.map (·.t)).getD j 0) (xs.map fun x => (Value.ref x.2.1, x.2.2))) (I.ok.hd hcalm) (by show X.A.units + 1 + 1 < cLine; omega) ok ⟨by rw [List.length_map], fun i key v e => ?_⟩ (fun h' keep x hxm => ?_)
    (by rw [List.length_map, hl]; exact hz) fun h' tk dd keep => ?_
  · replace e : (xs.map fun x => (Value.ref x.2.1, x.2.2))[i]? = some (key, v) := e
    rw [List.getElem?_map] at e
    cases hxi : xs[i]? with
    | none =>
      rw [hxi] at e
      cases e
    | some x =>
      rw [hxi] at e
      cases e
      exact ⟨x.1, x.2.1, rfl, rfl⟩
  · obtain ⟨j, hj⟩ := List.mem_iff_getElem?.mp hxm
    obtain ⟨p, e1, e2, e3, e4⟩ := hx j x hj
    obtain ⟨_, hb⟩ := hp p (List.mem_of_getElem? e1)
    rw [e2, e3]
    have kk : (tupleKind (mixKind X.prog X.w)).is s.heap p.k p.b := key_of I.hok hb
    exact tupleKind_stays.all (h := s.heap) h' (fun b ob _ e => keep b ob (Nat.ne_of_lt (Heap.lt_size e)) (by simp) e) _ _ kk
  · have kept : ∀ b ob, s.heap.get? b = some ob → h'.get? b = some ob := fun b ob e => keep b ob (by simp) e
    have fresh : H s.heap.objs.size = none := I.hok.fresh (Nat.le_refl _)
    have rel := hk [] [] .nil
    have ext : ∀ b ys, H b = some (.tup ys) → upd H s.heap.objs.size (.dT (putAll [] ps)) b = some (.tup ys) := fun b ys e => by rw [upd_ne (ne_of_none e fresh)]; exact e
    have hlen : (putAll [] ps).length ≤ sizeLine := by
      have := length_putAll ps []
      rw [List.length_nil] at this
      omega
    obtain ⟨o', es, ep, g1, g2, g3, g4, _, g5⟩ := dd
    exact ⟨.ref s.heap.objs.size, _, I.laid (t' := tk) kept (Nat.le_refl _) (show ObjOk X.prog X.w _ _ _ (.dT (putAll [] ps)) from ⟨hlen, big, _, rel.keeps ext, o', es, ep, g1, g2, g3, g4, g5⟩), rfl, q _ fresh⟩
end WayR
/-! Rules that the layer lacks, 4: a dict comprehension whose keys are tuples. -/
namespace WayR
open PySem PySem.Spec PyProof.Rows L2

/-- the store of a dict comprehension's turn, the key a tuple -/
theorem dictSetT {X : Cx} {pins : List (Addr × Obj)} {σ : L2.St} {H : Hp} {s : Shared} {E : Value → Shared → Prop} {D q : Addr} {kvs : List (List Key × V)} {k : List Key} {v : V} {r : Value} {Q : Unit → Shared → Prop} (hu : X.A.units + 64 < cLine) (I : Inv X pins σ H s)
    (hD : H D = some (.dT kvs)) (hq : H q = some (.tup (k.map kV))) (hz : kvs.length < sizeLine) (rv : RelV v r) (fin : ∀ s', Inv X pins σ (upd H D (.dT (putK kvs k v))) s' → Q () s') : wpAny (model X.prog X.w) X.A (dictSet D (.ref q) r) Q E s := by
  obtain ⟨z, big, xs, rel, dd⟩ := dt_of I.hok hD
  have lx : xs.length ≤ sizeLine := by rw [← Paired.length rel]; exact z
  have room : (tupleKind (mixKind X.prog X.w)).room X.A := by show X.A.units < cLine; omega
  refine wpAny_dictSet_heap (hsz := lx) room (key_of I.hok hq) dd fun h' dd' sb => fin _ ?_
  obtain ⟨o, es, ep, g1, g2, g3, g4, _, g5⟩ := dd'
  have len : (putK kvs k v).length ≤ sizeLine := by have := length_putK kvs k v; omega
  refine d_write I (by rw [hD]; exact True.intro) sb ⟨o, g1⟩ ⟨len, big, _, (rel.put k hq rv).keeps fun c ys ec => ?_, o, es, ep, g1, g2, g3, g4, g5⟩
  rw [upd_ne (ne_of ec hD fun z => nomatch z)]
  exact ec
section
variable {X : Cx}
/-- {k: v for target in iter if ..}, the keys tuples: D the new dict -/
def tDcT (wi : TI) (g : TG) (tt : TT) (tk tv : TE) (vs : List Nat) : TE := fun σ H Q => wi σ H fun J H1 => ∀ D, H1 D = none → ∃ W : Nat → Nat → Hp → Prop, (∃ m, W 0 m (upd H1 D (.dT []))) ∧ ∀ i m H2, W i m H2 →
  (J.stop i H2 ∧ Q (.ref D) H2) ∨ (J.go i H2 ∧ ∃ Nx : Hp → Prop, (∀ H', Nx H' → ∃ m', m' < m ∧ W (i + 1) m' H') ∧ ∀ x H', J.yld i H2 x H' → g x (wipe σ vs) H' fun σ2 H3 => wipe σ2 vs = wipe σ vs ∧ tt σ2 H3 fun b H4 =>
    if b = true then tk σ2 H4 fun y H5 => tv σ2 H5 fun z H6 => ∃ kvs k q, y = .ref q ∧ H6 q = some (.tup (k.map kV)) ∧ H6 D = some (.dT kvs) ∧ kvs.length < sizeLine ∧ Nx (upd H6 D (.dT (putK kvs k z))) else Nx H4)
theorem dcT_core {pins : List (Addr × Obj)} {s : Shared} {σ : L2.St} {H : Hp} {Q : VK} {kx vx tg iter : Expr} {ifs : List Expr} {scope : Scope} {own : List (Str × Nat)} {pos pos' : Pos} {wi : TI} {g : TG} {tt : TT} {tk tv : TE} {use : Option (Value → Sem Unit)} {Qf : Value → Shared → Prop}
    (hc : X.calm = true) (hu : X.A.units + 64 < cLine) (hN : X.N.Nodup) (I : Inv X pins σ H s) (hi : PI X tg iter wi) (ok : BlkOk X.N X.env.scope scope own)
    (hg : ∀ (s : Shared) (H : Hp) (C : Addr) (cl : List (Str × Addr)) (fp : List Addr), PG (X.blk s H scope (compEnvC scope cl C X.env) fp) tg g)
    (ht : ∀ (s : Shared) (H : Hp) (C : Addr) (cl : List (Str × Addr)) (fp : List Addr), PTs (X.blk s H scope (compEnvC scope cl C X.env) fp) ifs tt)
    (hk : ∀ (s : Shared) (H : Hp) (C : Addr) (cl : List (Str × Addr)) (fp : List Addr), PE (X.blk s H scope (compEnvC scope cl C X.env) fp) kx tk)
    (he : ∀ (s : Shared) (H : Hp) (C : Addr) (cl : List (Str × Addr)) (fp : List Addr), PE (X.blk s H scope (compEnvC scope cl C X.env) fp) vx tv)
    (hs : ∀ x, foldedSetIterable iter X.env x = pure x) (hq : tDcT wi g tt tk tv (own.map (·.2)) σ H Q)
    (hRR : ∀ D C s' m H', Inv X pins σ H' s' → Q (.ref D) H' → s'.heap.Ns C m → FpOk X pins H' C → compPost (model X.prog X.w) X.A X.xe use Qf (.ref D) C (.ok .next) s') :
    wpAny (model X.prog X.w) X.A (comprehension (.DictComp kx vx [⟨tg, iter, ifs, 0⟩] scope pos) scope X.env pos' newDict false (eval iter X.env) use) Qf X.xe s := by
  have closed : ∀ y ∈ scope.names, y.2 = .free → ∃ c, X.env.cells.lookup y.1 = some c := fun y hy e => I.ok.has _ (ok.free y hy e)
  refine wpAny_comprehension_free (use := use) rfl hs (closure_ok closed) ok.kind (fun y hy e => by rw [ok.uniq y hy, e]) (thn (hi.run pins s σ H _ I hq) fun xv s1 hx => thn hx fun itv s2 h2 => ?_)
  obtain ⟨it, fp, tn, J, H2, rfl, I2, T, st2, f2, q⟩ := h2
  refine wpAny_newObj_type (newEnv_comp ?_)
  generalize hD : s2.heap.objs.size = D
  obtain ⟨W, ⟨m0, w0⟩, turn⟩ := q D (I2.hok.fresh (Nat.le_of_eq hD))
  -- the dict, empty
  generalize hs3 : ({ s2 with heap := s2.heap.push { cls := .type "dict", data := .dict #[] } } : Shared) = s3
  have h3 : s3.heap = s2.heap.push { cls := .type "dict", data := .dict #[] } := by rw [← hs3]
  have I3 : Inv X pins σ (upd H2 D (.dT [])) s3 := by
    rw [← hs3]
    exact I2.laid (t' := s2.toks) (fun b o e => Heap.get?_push_of_some _ e) (Nat.le_of_eq hD) (by rw [← hD]; exact dt_empty s2.heap I2.big)
  have below : ∀ b ∈ fp, b < s2.heap.objs.size := fun b hb => by
    obtain ⟨o, e, _⟩ := T.obj _ _ st2 b hb
    exact Heap.lt_size e
  have f3 : ∀ b ∈ fp, FpOk X pins (upd H2 D (.dT [])) b ∧ b < s3.heap.objs.size := fun b hb => by
    have hlt := below b hb
    exact ⟨⟨by rw [upd_ne (by rw [← hD]; exact Nat.ne_of_lt hlt)]; exact (f2 b hb).1, (f2 b hb).2⟩, by rw [h3, Heap.size_push]; exact Nat.lt_succ_of_lt hlt⟩
  have st3 : tn 0 s3.heap := T.keep _ _ _ st2 fun b _ o e => by rw [h3]; exact Heap.get?_push_of_some _ e
  have I4 := block_start I3 ok hN f3
  have pg := hg s3 (upd H2 D (.dT [])) s3.heap.objs.size (cellsFrom (s3.heap.objs.size + 1) scope.names (cloFrom X.env.cells scope.names [])) fp
  have pt := ht s3 (upd H2 D (.dT [])) s3.heap.objs.size (cellsFrom (s3.heap.objs.size + 1) scope.names (cloFrom X.env.cells scope.names [])) fp
  have pk := hk s3 (upd H2 D (.dT [])) s3.heap.objs.size (cellsFrom (s3.heap.objs.size + 1) scope.names (cloFrom X.env.cells scope.names [])) fp
  have pe := he s3 (upd H2 D (.dT [])) s3.heap.objs.size (cellsFrom (s3.heap.objs.size + 1) scope.names (cloFrom X.env.cells scope.names [])) fp
  show codeAny _ _ (.compStart (.DictComp kx vx [⟨tg, iter, ifs, 0⟩] scope pos) 0 (.ref it) (.ref D) (compEnvC scope (cellsFrom (s3.heap.objs.size + 1) scope.names (cloFrom X.env.cells scope.names [])) s3.heap.objs.size X.env))
    (compPost (model X.prog X.w) X.A X.xe use Qf (.ref D) s3.heap.objs.size) { s3 with heap := pushCells (s3.heap.push { cls := .type "dict", data := .dict #[] }) scope.names }
  have nfp : ∀ b ∈ fp, (upd H2 D (.dT [])) b = none := fun b hb => (f3 b hb).1.1
  generalize hce : compEnvC scope (cellsFrom (s3.heap.objs.size + 1) scope.names (cloFrom X.env.cells scope.names [])) s3.heap.objs.size X.env = ce at I4 pg pt pk pe ⊢
  have cL : ce.locals = s3.heap.objs.size := by subst hce; rfl
  generalize hH3 : upd H2 D (.dT []) = H3 at I3 I4 pg pt pk pe w0 nfp f3
  generalize hs4 : ({ s3 with heap := pushCells (s3.heap.push { cls := .type "dict", data := .dict #[] }) scope.names } : Shared) = s4 at I4 ⊢
  have st4 : tn 0 s4.heap := T.keep _ _ _ st3 fun b _ o e => by rw [← hs4]; exact pushCells_keeps _ _ _ _ (Heap.get?_push_of_some _ e)
  have still : ∀ {σ' : L2.St} {H' : Hp} {s' : Shared}, Inv (X.blk s3 H3 scope ce fp) [] σ' H' s' → (∀ b ∈ fp, H' b = none) → ∀ b ∈ fp, FpOk (X.blk s3 H3 scope ce fp) [] H' b := fun {σ' H' s'} I' hn b hb =>
    ⟨hn b hb, (I'.ok.exf b hb).1, I'.ok.exfs b hb, .inl hb, fun x c e => (I'.ok.exf b hb).2 x c e, fun p hp => absurd (show p ∈ ([] : List (Addr × Obj)) ++ [] from hp) (by simp)⟩
  have huB : (X.blk s3 H3 scope ce fp).A.units + 64 < cLine := hu
  have loop : codeAny (model X.prog X.w) X.A (.compLoop (.DictComp kx vx [⟨tg, iter, ifs, 0⟩] scope pos) 0 (.ref it) (.ref D) ce) (compPost (model X.prog X.w) X.A X.xe use Qf (.ref D) s3.heap.objs.size) s4 := by
    refine compLoop_anyD (fun n s' => ∃ i H', Inv (X.blk s3 H3 scope ce fp) [] (wipe σ (own.map (·.2))) H' s' ∧ tn i s'.heap ∧ (∀ b ∈ fp, H' b = none) ∧ W i n H') ?_ m0 ⟨0, H3, I4, st4, nfp, w0⟩
    rintro n s5 ⟨i, H5, I5, st5, n5, w5⟩
    rcases turn i n H5 w5 with ⟨stop, qq⟩ | ⟨go, Nx, hNx, step⟩
    · refine thnF (T.done (X.blk s3 H3 scope ce fp) rfl rfl rfl hc i [] s5 _ H5 (fun _ _ => False) I5 (still I5 n5) st5 stop) fun r s6 ⟨hr, I6⟩ => ?_
      subst hr
      have I7 : Inv X pins σ H5 s6 := I3.call' (ch := fp) I6.os I6.base I6.hok I6.bare fun b hb => ⟨(f3 b hb).1.2.2.2.1, (f3 b hb).1.2.1, (f3 b hb).1.2.2.2.2.1, (f3 b hb).1.2.2.2.2.2⟩
      have nC : H5 s3.heap.objs.size = none := by
        rw [← cL]
        exact I6.free
      obtain ⟨m, hn, _⟩ := I6.loc
      replace hn : s6.heap.Ns ce.locals m := hn
      rw [cL] at hn
      exact hRR D s3.heap.objs.size s6 m H5 I7 qq hn (I3.fpOk (Nat.le_refl _) nC)
    · refine thnF (T.item (X.blk s3 H3 scope ce fp) rfl rfl rfl hc i [] s5 _ H5 (fun _ _ => False) I5 (still I5 n5) st5 go) fun r s6 ⟨u, hr, h6⟩ => ?_
      subst hr
      refine thnF h6 fun _ s7 ⟨x, H7, I7, r7, y7, st7, n7⟩ => ?_
      have I7' := I7.pinned (still I7 n7) (T.obj _ _ st7)
      refine thnF (pg.run _ s7 _ H7 x u _ I7' r7 (step x H7 y7)) fun _ s8 ⟨σ8, H8, I8, hw8, q8⟩ => ?_
      refine thnF (pt.run _ s8 σ8 H8 _ I8 q8) fun b s9 ⟨H9, I9, q9⟩ => ?_
      -- a turn is over
      have over : ∀ {s' : Shared} {H' : Hp}, Inv (X.blk s3 H3 scope ce fp) ([] ++ pinsAt fp s7.heap) σ8 H' s' → Nx H' → ∃ m, m < n ∧ ∃ i H', Inv (X.blk s3 H3 scope ce fp) [] (wipe σ (own.map (·.2))) H' s' ∧ tn i s'.heap ∧ (∀ b ∈ fp, H' b = none) ∧ W i m H' := fun {s' H'} I' nx => by
        obtain ⟨m', hm, w'⟩ := hNx H' nx
        have pinned : ∀ b ∈ fp, ∀ o, s7.heap.get? b = some o → s'.heap.get? b = some o ∧ H' b = none := fun b hb o e =>
          let z := I'.pin (b, o) (List.mem_append_right _ (List.mem_append_right _ (mem_pinsAt hb e)))
          ⟨z.1, z.2.1⟩
        refine ⟨m', hm, i + 1, H', (I'.unpinned (pins := [])).weak (by rw [← hw8, wipe_length]) (fun j v e => by rw [← hw8] at e; exact (wipe_some e).1), T.keep _ _ _ st7 fun b hb o e => (pinned b hb o e).1, fun b hb => ?_, w'⟩
        obtain ⟨o, e, _⟩ := T.obj _ _ st7 b hb
        exact (pinned b hb o e).2
      cases b with
      | false =>
        simp only [Bool.false_eq_true, if_false] at q9 ⊢
        exact over I9 q9
      | true =>
        simp only [if_true] at q9 ⊢
        refine thnF (pk.run _ s9 σ8 H9 _ I9 q9) fun z s10 ⟨yk, H10, I10, r10, q10⟩ => ?_
        refine thnF (pe.run _ s10 σ8 H10 _ I10 q10) fun z2 s11 ⟨yv, H11, I11, r11, kvs, k, qa, ek, hqa, hD11, hz11, nx⟩ => ?_
        subst ek
        obtain rfl : z = Value.ref qa := r10
        exact dictSetT (X := X.blk s3 H3 scope ce fp) huB I11 hD11 hqa hz11 r11 fun s12 I12 => over I12 nx
  exact codeAny_compStart_dict loop (T.self X.A 0 _ _ _ st4 loop)
theorem pe_dcT {kx vx tg iter : Expr} {ifs : List Expr} {scope : Scope} {own : List (Str × Nat)} {pos : Pos} {wi : TI} {g : TG} {tt : TT} {tk tv : TE} (hc : X.calm = true) (hu : X.A.units + 64 < cLine) (hN : X.N.Nodup) (hi : PI X tg iter wi) (ok : BlkOk X.N X.env.scope scope own)
    (hg : ∀ (s : Shared) (H : Hp) (C : Addr) (cl : List (Str × Addr)) (fp : List Addr), PG (X.blk s H scope (compEnvC scope cl C X.env) fp) tg g)
    (ht : ∀ (s : Shared) (H : Hp) (C : Addr) (cl : List (Str × Addr)) (fp : List Addr), PTs (X.blk s H scope (compEnvC scope cl C X.env) fp) ifs tt)
    (hk : ∀ (s : Shared) (H : Hp) (C : Addr) (cl : List (Str × Addr)) (fp : List Addr), PE (X.blk s H scope (compEnvC scope cl C X.env) fp) kx tk)
    (he : ∀ (s : Shared) (H : Hp) (C : Addr) (cl : List (Str × Addr)) (fp : List Addr), PE (X.blk s H scope (compEnvC scope cl C X.env) fp) vx tv) (hs : ∀ x, foldedSetIterable iter X.env x = pure x := by intro _; rfl) :
    PE X (.DictComp kx vx [⟨tg, iter, ifs, 0⟩] scope pos) (tDcT wi g tt tk tv (own.map (·.2))) := by
  refine ⟨fun pins s σ H Q I hq => ?_⟩
  rw [arm_eval_DictComp]
  refine dcT_core hc hu hN I hi ok hg ht hk he hs hq fun D C s' m H' I' q hn f => ⟨m, hn, fun h'' sb => ?_⟩
  obtain ⟨f0, f1, f2, f3, f4, f5⟩ := f
  exact ⟨.ref D, H', I'.turned (t' := s'.toks) (fun b o hb e => (sb.2 b hb).trans e) f0 f1 f3 f4 f5, rfl, q⟩
/-- over a walk -/
theorem dcT_it {J : It} {n : Nat} {G : Hp → Prop} {Y : Nat → Hp → V → Hp → Prop} (wk : Walk J n G Y) {g : TG} {tt : TT} {tk tv : TE} {vs : List Nat} {σ : L2.St} {H1 : Hp} {D : Addr} {Qd : Hp → Prop} (Pv : Nat → Hp → Prop) (h0 : Pv 0 (upd H1 D (.dT []))) (hG : ∀ i H, i ≤ n → Pv i H → G H)
    (hs : ∀ i x H H', i < n → Pv i H → Y i H x H' → g x (wipe σ vs) H' fun σ2 H2 => wipe σ2 vs = wipe σ vs ∧ tt σ2 H2 fun b H3 =>
      if b = true then tk σ2 H3 fun y H4 => tv σ2 H4 fun z H5 => ∃ kvs k q, y = .ref q ∧ H5 q = some (.tup (k.map kV)) ∧ H5 D = some (.dT kvs) ∧ kvs.length < sizeLine ∧ Pv (i + 1) (upd H5 D (.dT (putK kvs k z))) else Pv (i + 1) H3) (hd : ∀ H, Pv n H → Qd H) :
    ∃ W : Nat → Nat → Hp → Prop, (∃ m, W 0 m (upd H1 D (.dT []))) ∧ ∀ i m H, W i m H →
      (J.stop i H ∧ Qd H) ∨ (J.go i H ∧ ∃ Nx : Hp → Prop, (∀ H', Nx H' → ∃ m', m' < m ∧ W (i + 1) m' H') ∧ ∀ x H', J.yld i H x H' → g x (wipe σ vs) H' fun σ2 H2 => wipe σ2 vs = wipe σ vs ∧ tt σ2 H2 fun b H3 =>
        if b = true then tk σ2 H3 fun y H4 => tv σ2 H4 fun z H5 => ∃ kvs k q, y = .ref q ∧ H5 q = some (.tup (k.map kV)) ∧ H5 D = some (.dT kvs) ∧ kvs.length < sizeLine ∧ Nx (upd H5 D (.dT (putK kvs k z))) else Nx H3) := by
  refine ⟨fun i m H => m = n - i ∧ i ≤ n ∧ Pv i H, ⟨n, by simp, Nat.zero_le _, h0⟩, ?_⟩
  rintro i m H ⟨rfl, hi, p⟩
  have q := hG i H hi p
  by_cases hlt : i < n
  · exact .inr ⟨wk.goes i H hlt q, Pv (i + 1), fun H' p' => ⟨n - (i + 1), by omega, rfl, hlt, p'⟩, fun x H' y => hs i x H H' hlt p (wk.yields i H x H' hlt q y)⟩
  · obtain rfl : i = n := by omega
    exact .inl ⟨wk.stops H q, hd H p⟩
end
end WayR
/-! The text by places, the data, the promises' ground. -/
namespace WayP
open PySem PySem.Spec PyProof.Rows L2 WayR Way
/-! ### the text -/
def top (i : Nat) : Stmt := PySem.Challenge.pw_streetpapers_k03_whole_ways_back.main.body.getD i (.Pass ⟨0, 0, 0, 0⟩)
abbrev s_is_in : Stmt := top 11
abbrev nm_is_in : List Str := ["value", "least", "most"]
abbrev ps_is_in : List Str := ["value", "least", "most"]
theorem sc_is_in : FnScope nm_is_in ps_is_in (defScope s_is_in) := ⟨rfl, rfl, rfl, by decide +kernel, rfl, by decide +kernel, by decide +kernel⟩
abbrev s_is_entry : Stmt := top 12
abbrev nm_is_entry : List Str := ["entry", "states", "colours"]
abbrev ps_is_entry : List Str := ["entry", "states", "colours"]
theorem sc_is_entry : FnScope nm_is_entry ps_is_entry (defScope s_is_entry) := ⟨rfl, rfl, rfl, by decide +kernel, rfl, by decide +kernel, by decide +kernel⟩
abbrev s_is_table : Stmt := top 13
abbrev nm_is_table : List Str := ["table", "row", "entry"]
abbrev ps_is_table : List Str := ["table"]
theorem sc_is_table : FnScope nm_is_table ps_is_table (defScope s_is_table) := ⟨rfl, rfl, rfl, by decide +kernel, rfl, by decide +kernel, by decide +kernel⟩
abbrev s_need_table : Stmt := top 14
abbrev nm_need_table : List Str := ["table"]
abbrev ps_need_table : List Str := ["table"]
theorem sc_need_table : FnScope nm_need_table ps_need_table (defScope s_need_table) := ⟨rfl, rfl, rfl, by decide +kernel, rfl, by decide +kernel, by decide +kernel⟩
abbrev s_is_place : Stmt := top 19
abbrev nm_is_place : List Str := ["value"]
abbrev ps_is_place : List Str := ["value"]
theorem sc_is_place : FnScope nm_is_place ps_is_place (defScope s_is_place) := ⟨rfl, rfl, rfl, by decide +kernel, rfl, by decide +kernel, by decide +kernel⟩
abbrev s_is_square : Stmt := top 20
abbrev nm_is_square : List Str := ["value", "colours"]
abbrev ps_is_square : List Str := ["value", "colours"]
theorem sc_is_square : FnScope nm_is_square ps_is_square (defScope s_is_square) := ⟨rfl, rfl, rfl, by decide +kernel, rfl, by decide +kernel, by decide +kernel⟩
abbrev s_need_floor : Stmt := top 21
abbrev nm_need_floor : List Str := ["floor", "colours", "index", "square"]
abbrev ps_need_floor : List Str := ["floor", "colours"]
theorem sc_need_floor : FnScope nm_need_floor ps_need_floor (defScope s_need_floor) := ⟨rfl, rfl, rfl, by decide +kernel, rfl, by decide +kernel, by decide +kernel⟩
abbrev s_squares_of : Stmt := top 22
abbrev nm_squares_of : List Str := ["floor", "square"]
abbrev ps_squares_of : List Str := ["floor"]
theorem sc_squares_of : FnScope nm_squares_of ps_squares_of (defScope s_squares_of) := ⟨rfl, rfl, rfl, by decide +kernel, rfl, by decide +kernel, by decide +kernel⟩
abbrev s_floor_of : Stmt := top 23
abbrev nm_floor_of : List Str := ["squares", "place"]
abbrev ps_floor_of : List Str := ["squares"]
theorem sc_floor_of : FnScope nm_floor_of ps_floor_of (defScope s_floor_of) := ⟨rfl, rfl, rfl, by decide +kernel, rfl, by decide +kernel, by decide +kernel⟩
abbrev s_is_walker : Stmt := top 26
abbrev nm_is_walker : List Str := ["table", "value"]
abbrev ps_is_walker : List Str := ["table", "value"]
theorem sc_is_walker : FnScope nm_is_walker ps_is_walker (defScope s_is_walker) := ⟨rfl, rfl, rfl, by decide +kernel, rfl, by decide +kernel, by decide +kernel⟩
abbrev s_need_stand : Stmt := top 27
abbrev nm_need_stand : List Str := ["table", "floor", "walker"]
abbrev ps_need_stand : List Str := ["table", "floor", "walker"]
theorem sc_need_stand : FnScope nm_need_stand ps_need_stand (defScope s_need_stand) := ⟨rfl, rfl, rfl, by decide +kernel, rfl, by decide +kernel, by decide +kernel⟩
abbrev s_Walkx_initx : Stmt := inClass (top 28) 0
abbrev nm_Walkx_initx : List Str := ["self", "table", "floor", "walker"]
abbrev ps_Walkx_initx : List Str := ["self", "table", "floor", "walker"]
theorem sc_Walkx_initx : FnScope nm_Walkx_initx ps_Walkx_initx (defScope s_Walkx_initx) := ⟨rfl, rfl, rfl, by decide +kernel, rfl, by decide +kernel, by decide +kernel⟩
abbrev s_Walk_colour : Stmt := inClass (top 28) 1
abbrev nm_Walk_colour : List Str := ["self"]
abbrev ps_Walk_colour : List Str := ["self"]
theorem sc_Walk_colour : FnScope nm_Walk_colour ps_Walk_colour (defScope s_Walk_colour) := ⟨rfl, rfl, rfl, by decide +kernel, rfl, by decide +kernel, by decide +kernel⟩
abbrev s_Walk_entry : Stmt := inClass (top 28) 2
abbrev nm_Walk_entry : List Str := ["self"]
abbrev ps_Walk_entry : List Str := ["self"]
theorem sc_Walk_entry : FnScope nm_Walk_entry ps_Walk_entry (defScope s_Walk_entry) := ⟨rfl, rfl, rfl, by decide +kernel, rfl, by decide +kernel, by decide +kernel⟩
abbrev s_Walk_walker : Stmt := inClass (top 28) 3
abbrev nm_Walk_walker : List Str := ["self"]
abbrev ps_Walk_walker : List Str := ["self"]
theorem sc_Walk_walker : FnScope nm_Walk_walker ps_Walk_walker (defScope s_Walk_walker) := ⟨rfl, rfl, rfl, by decide +kernel, rfl, by decide +kernel, by decide +kernel⟩
abbrev s_Walk_step : Stmt := inClass (top 28) 4
abbrev nm_Walk_step : List Str := ["self", "entry", "paint", "turn", "state", "ahead"]
abbrev ps_Walk_step : List Str := ["self"]
theorem sc_Walk_step : FnScope nm_Walk_step ps_Walk_step (defScope s_Walk_step) := ⟨rfl, rfl, rfl, by decide +kernel, rfl, by decide +kernel, by decide +kernel⟩
abbrev s_Walk_go : Stmt := inClass (top 28) 5
abbrev nm_Walk_go : List Str := ["self", "many"]
abbrev ps_Walk_go : List Str := ["self", "many"]
theorem sc_Walk_go : FnScope nm_Walk_go ps_Walk_go (defScope s_Walk_go) := ⟨rfl, rfl, rfl, by decide +kernel, rfl, by decide +kernel, by decide +kernel⟩
abbrev s_Walk_stand : Stmt := inClass (top 28) 6
abbrev nm_Walk_stand : List Str := ["self"]
abbrev ps_Walk_stand : List Str := ["self"]
theorem sc_Walk_stand : FnScope nm_Walk_stand ps_Walk_stand (defScope s_Walk_stand) := ⟨rfl, rfl, rfl, by decide +kernel, rfl, by decide +kernel, by decide +kernel⟩
abbrev s_walk : Stmt := top 29
abbrev nm_walk : List Str := ["table", "floor", "walker", "many", "found"]
abbrev ps_walk : List Str := ["table", "floor", "walker", "many"]
theorem sc_walk : FnScope nm_walk ps_walk (defScope s_walk) := ⟨rfl, rfl, rfl, by decide +kernel, rfl, by decide +kernel, by decide +kernel⟩
abbrev s_sources_in : Stmt := top 31
abbrev nm_sources_in : List Str := ["table", "found", "state", "row", "colour", "entry", "key"]
abbrev ps_sources_in : List Str := ["table"]
theorem sc_sources_in : FnScope nm_sources_in ps_sources_in (defScope s_sources_in) := ⟨rfl, rfl, rfl, by decide +kernel, rfl, by decide +kernel, by decide +kernel⟩
abbrev s_can_be_undone : Stmt := top 32
abbrev nm_can_be_undone : List Str := ["table", "one"]
abbrev ps_can_be_undone : List Str := ["table"]
theorem sc_can_be_undone : FnScope nm_can_be_undone ps_can_be_undone (defScope s_can_be_undone) := ⟨rfl, rfl, rfl, by decide +kernel, rfl, by decide +kernel, by decide +kernel⟩
abbrev s_step_back : Stmt := top 33
abbrev nm_step_back : List Str := ["table", "sources", "squares", "walker", "x", "y", "heading", "state", "place", "before", "old", "colour"]
abbrev ps_step_back : List Str := ["table", "sources", "squares", "walker"]
theorem sc_step_back : FnScope nm_step_back ps_step_back (defScope s_step_back) := ⟨rfl, rfl, rfl, by decide +kernel, rfl, by decide +kernel, by decide +kernel⟩
abbrev s_back : Stmt := top 34
abbrev nm_back : List Str := ["table", "floor", "walker", "many", "sources", "squares", "turn"]
abbrev ps_back : List Str := ["table", "floor", "walker", "many"]
theorem sc_back : FnScope nm_back ps_back (defScope s_back) := ⟨rfl, rfl, rfl, by decide +kernel, rfl, by decide +kernel, by decide +kernel⟩
abbrev s__law_taken : Stmt := top 36
abbrev nm__law_taken : List Str := ["_law_row", "_law_many", "_law_found", "_law_cell"]
abbrev ps__law_taken : List Str := ["_law_row", "_law_many"]
theorem sc__law_taken : FnScope nm__law_taken ps__law_taken (defScope s__law_taken) := ⟨rfl, rfl, rfl, by decide +kernel, rfl, by decide +kernel, by decide +kernel⟩
abbrev s__law_pick : Stmt := top 37
abbrev nm__law_pick : List Str := ["_law_row", "_law_things"]
abbrev ps__law_pick : List Str := ["_law_row", "_law_things"]
theorem sc__law_pick : FnScope nm__law_pick ps__law_pick (defScope s__law_pick) := ⟨rfl, rfl, rfl, by decide +kernel, rfl, by decide +kernel, by decide +kernel⟩
abbrev s__law_table : Stmt := top 38
abbrev nm__law_table : List Str := ["_law_row", "_law_states", "_law_colours", "_law_stop", "_law_found", "_law_state", "_law_line", "_law_colour", "_law_entry"]
abbrev ps__law_table : List Str := ["_law_row"]
theorem sc__law_table : FnScope nm__law_table ps__law_table (defScope s__law_table) := ⟨rfl, rfl, rfl, by decide +kernel, rfl, by decide +kernel, by decide +kernel⟩
abbrev s__law_alike : Stmt := top 39
abbrev nm__law_alike : List Str := ["_law_found", "_law_due", "_law_k"]
abbrev ps__law_alike : List Str := ["_law_found", "_law_due"]
theorem sc__law_alike : FnScope nm__law_alike ps__law_alike (defScope s__law_alike) := ⟨rfl, rfl, rfl, by decide +kernel, rfl, by decide +kernel, by decide +kernel⟩
abbrev s__law_signed : Stmt := top 40
abbrev nm__law_signed : List Str := ["_law_row", "_law_most"]
abbrev ps__law_signed : List Str := ["_law_row", "_law_most"]
theorem sc__law_signed : FnScope nm__law_signed ps__law_signed (defScope s__law_signed) := ⟨rfl, rfl, rfl, by decide +kernel, rfl, by decide +kernel, by decide +kernel⟩
abbrev s__law_some_floor : Stmt := top 41
abbrev nm__law_some_floor : List Str := ["_law_row", "_law_colours", "_law_most", "_law_cells", "_law_turn", "_law_place"]
abbrev ps__law_some_floor : List Str := ["_law_row", "_law_colours", "_law_most"]
theorem sc__law_some_floor : FnScope nm__law_some_floor ps__law_some_floor (defScope s__law_some_floor) := ⟨rfl, rfl, rfl, by decide +kernel, rfl, by decide +kernel, by decide +kernel⟩
abbrev s__law_walker : Stmt := top 42
abbrev nm__law_walker : List Str := ["_law_row", "_law_table_here"]
abbrev ps__law_walker : List Str := ["_law_row", "_law_table_here"]
theorem sc__law_walker : FnScope nm__law_walker ps__law_walker (defScope s__law_walker) := ⟨rfl, rfl, rfl, by decide +kernel, rfl, by decide +kernel, by decide +kernel⟩
abbrev s__law_ahead : Stmt := top 43
abbrev nm__law_ahead : List Str := ["_law_place", "_law_heading"]
abbrev ps__law_ahead : List Str := ["_law_place", "_law_heading"]
theorem sc__law_ahead : FnScope nm__law_ahead ps__law_ahead (defScope s__law_ahead) := ⟨rfl, rfl, rfl, by decide +kernel, rfl, by decide +kernel, by decide +kernel⟩
abbrev s__law_floor : Stmt := top 44
abbrev nm__law_floor : List Str := ["_law_cells", "_law_place"]
abbrev ps__law_floor : List Str := ["_law_cells"]
theorem sc__law_floor : FnScope nm__law_floor ps__law_floor (defScope s__law_floor) := ⟨rfl, rfl, rfl, by decide +kernel, rfl, by decide +kernel, by decide +kernel⟩
abbrev s__law_undone_table : Stmt := top 45
abbrev nm__law_undone_table : List Str := ["_law_row", "_law_states", "_law_colours", "_law_pairs", "_law_found", "_law_state", "_law_line", "_law_colour", "_law_pair", "_law_k"]
abbrev ps__law_undone_table : List Str := ["_law_row"]
theorem sc__law_undone_table : FnScope nm__law_undone_table ps__law_undone_table (defScope s__law_undone_table) := ⟨rfl, rfl, rfl, by decide +kernel, rfl, by decide +kernel, by decide +kernel⟩
abbrev s__law_sources : Stmt := top 46
abbrev nm__law_sources : List Str := ["_law_table_here", "_law_state", "_law_paint", "_law_found", "_law_old", "_law_colour"]
abbrev ps__law_sources : List Str := ["_law_table_here", "_law_state", "_law_paint"]
theorem sc__law_sources : FnScope nm__law_sources ps__law_sources (defScope s__law_sources) := ⟨rfl, rfl, rfl, by decide +kernel, rfl, by decide +kernel, by decide +kernel⟩
abbrev s_law : Stmt := top 47
abbrev nm_law : List Str := ["_law_script", "_law_row", "_law_table_here", "_law_pairs", "_law_line", "_law_one", "_law_good", "_law_floor_here", "_law_walker_here", "_law_many", "_law_after", "_law_told", "error", "_law_before", "_law_steps", "_law_cells", "_law_square", "_law_here", "_law_turn", "_law_place", "_law_sources_here"]
abbrev ps_law : List Str := ["_law_script"]
theorem sc_law : FnScope nm_law ps_law (defScope s_law) := ⟨rfl, rfl, rfl, by decide +kernel, rfl, by decide +kernel, by decide +kernel⟩

/-! ### a def behind the top -/
def FunE (K : PySem.W.Frag) (x qual : Str) (st : Stmt) (f : Addr) (fd : FuncData) : Prop :=
  ∃ (oc : Value) (od : Option Addr) (dV kV doc pm : Value) (an : Option Addr) (cdv ct : Value) (osl : Array (Option Value)),
    fd = PySem.W.fnOf x qual (defArgs st) (defBody st) (defScope st) dV kV doc pm an cdv ct ∧ K.lookup f = some ⟨oc, od, .func fd, osl⟩ ∧ PySem.W.codeIn K cdv qual = true
structure DefB (K : PySem.W.Frag) (mg : Str → Option Value) (x : Str) (st : Stmt) (ps : List Str) : Prop where
  ex : ∃ (f : Addr) (fd : FuncData), FunE K x x st f fd ∧ PySem.W.keepIn K (.ref f) = true ∧ mg x = some (.ref f) ∧ Binds K fd ps []
structure MetB (K : PySem.W.Frag) (C : Addr) (m qual : Str) (st : Stmt) (ps : List Str) : Prop where
  ex : ∃ (f : Addr) (fd : FuncData), FunE K m qual st f fd ∧ Meth K C m f ∧ Binds K fd ps []
structure IniB (K : PySem.W.Frag) (mg : Str → Option Value) (x : Str) (C : Addr) (qual : Str) (st : Stmt) (ps : List Str) : Prop where
  ex : ∃ (f : Addr) (fd : FuncData), FunE K "__init__" qual st f fd ∧ Mk K C f ∧ mg x = some (.ref C) ∧ Binds K fd ps []
/-- what stands behind the top -/
structure Txt (K : PySem.W.Frag) (mg : Str → Option Value) (cW cE cN hA h0 h1 h2 h3 : Addr) : Prop where
  d_is_in : DefB K mg "is_in" s_is_in ps_is_in
  d_is_entry : DefB K mg "is_entry" s_is_entry ps_is_entry
  d_is_table : DefB K mg "is_table" s_is_table ps_is_table
  d_need_table : DefB K mg "need_table" s_need_table ps_need_table
  d_is_place : DefB K mg "is_place" s_is_place ps_is_place
  d_is_square : DefB K mg "is_square" s_is_square ps_is_square
  d_need_floor : DefB K mg "need_floor" s_need_floor ps_need_floor
  d_squares_of : DefB K mg "squares_of" s_squares_of ps_squares_of
  d_floor_of : DefB K mg "floor_of" s_floor_of ps_floor_of
  d_is_walker : DefB K mg "is_walker" s_is_walker ps_is_walker
  d_need_stand : DefB K mg "need_stand" s_need_stand ps_need_stand
  d_Walkx_initx : IniB K mg "Walk" cW "Walk.__init__" s_Walkx_initx ps_Walkx_initx
  d_Walk_colour : MetB K cW "colour" "Walk.colour" s_Walk_colour ps_Walk_colour
  d_Walk_entry : MetB K cW "entry" "Walk.entry" s_Walk_entry ps_Walk_entry
  d_Walk_walker : MetB K cW "walker" "Walk.walker" s_Walk_walker ps_Walk_walker
  d_Walk_step : MetB K cW "step" "Walk.step" s_Walk_step ps_Walk_step
  d_Walk_go : MetB K cW "go" "Walk.go" s_Walk_go ps_Walk_go
  d_Walk_stand : MetB K cW "stand" "Walk.stand" s_Walk_stand ps_Walk_stand
  d_walk : DefB K mg "walk" s_walk ps_walk
  d_sources_in : DefB K mg "sources_in" s_sources_in ps_sources_in
  d_can_be_undone : DefB K mg "can_be_undone" s_can_be_undone ps_can_be_undone
  d_step_back : DefB K mg "step_back" s_step_back ps_step_back
  d_back : DefB K mg "back" s_back ps_back
  d__law_taken : DefB K mg "_law_taken" s__law_taken ps__law_taken
  d__law_pick : DefB K mg "_law_pick" s__law_pick ps__law_pick
  d__law_table : DefB K mg "_law_table" s__law_table ps__law_table
  d__law_alike : DefB K mg "_law_alike" s__law_alike ps__law_alike
  d__law_signed : DefB K mg "_law_signed" s__law_signed ps__law_signed
  d__law_some_floor : DefB K mg "_law_some_floor" s__law_some_floor ps__law_some_floor
  d__law_walker : DefB K mg "_law_walker" s__law_walker ps__law_walker
  d__law_ahead : DefB K mg "_law_ahead" s__law_ahead ps__law_ahead
  d__law_floor : DefB K mg "_law_floor" s__law_floor ps__law_floor
  d__law_undone_table : DefB K mg "_law_undone_table" s__law_undone_table ps__law_undone_table
  d__law_sources : DefB K mg "_law_sources" s__law_sources ps__law_sources
  d_law : DefB K mg "law" s_law ps_law
  zlen : mg "len" = none
  zisinstance : mg "isinstance" = none
  zint : mg "int" = none
  zbool : mg "bool" = none
  ztuple : mg "tuple" = none
  zlist : mg "list" = none
  zstr : mg "str" = none
  zsorted : mg "sorted" = none
  zset : mg "set" = none
  zdict : mg "dict" = none
  zrange : mg "range" = none
  zenumerate : mg "enumerate" = none
  cMOST_STATES : ∃ u, mg "MOST_STATES" = some u ∧ RelV (V.int 10) u
  cMOST_COLOURS : ∃ u, mg "MOST_COLOURS" = some u ∧ RelV (V.int 6) u
  cFAR : ∃ u, mg "FAR" = some u ∧ RelV (V.int (10 ^ 60)) u
  cMOST_SQUARES : ∃ u, mg "MOST_SQUARES" = some u ∧ RelV (V.int 4000) u
  cMOST_STEPS : ∃ u, mg "MOST_STEPS" = some u ∧ RelV (V.int 100000) u
  kW : Cls K cW
  mW : mg "Walk" = some (.ref cW)
  nF : ∀ f ∈ (["table", "squares", "place", "heading", "state", "done"] : List Str), NoAttr K cW f
  cH : mg "HEADINGS" = some (.ref hA)
  sH : ∀ H, SqT K H hA [.ref h0, .ref h1, .ref h2, .ref h3]
  sH0 : ∀ H, SqT K H h0 [.int 0, .int (-1)]
  sH1 : ∀ H, SqT K H h1 [.int 1, .int 0]
  sH2 : ∀ H, SqT K H h2 [.int 0, .int 1]
  sH3 : ∀ H, SqT K H h3 [.int (-1), .int 0]
  mE : mg "WalkError" = some (.ref cE)
  mN : mg "NoWayBack" = some (.ref cN)
  xN : PySem.W.excIn K cN [.type "ValueError", .type "Exception", .type "BaseException", .type "object"] "ValueError.__new__" = true
  kN : PySem.W.keepIn K (.ref cN) = true
  bN : PySem.W.subIn K (.ref cN) (.type "BaseException") = some true
  tN : PySem.W.typeIn K (.ref cN) = some (.type "type")
  nE : PySem.W.exmOne K (.ref cN) (.ref cE) = some true
  eN : ExcC K cN
  iN : PySem.W.kitOne K (.ref cN) (.ref cN) = some true

section
variable {P : Program} {w : World} {K : PySem.W.Frag} {mg : Str → Option Value} {base : Heap}
/-- a def by its body -/
theorem cal_of {x : Str} {st : Stmt} {N ps : List Str} {k : Nat} {sp : Sp} (B : DefB K mg x st ps) (S : FnScope N ps (defScope st)) (len : ∀ vs H Q E, sp vs H Q E → vs.length = ps.length)
    (hbody : ∀ (f : Addr) (cdv : Value) (A : Around) (outer : List Env) (s : Shared) (H : Hp) (vs : List V) (Q : VK) (E : XK), Room k (A.deeper (envOfC x (defScope st) s.heap.objs.size f cdv)) → sp vs H Q E →
      ∃ t, PSs (cxOf CX0 P w K mg base N x (defScope st) f cdv A outer s H E).nox (defBody st) t ∧ t { nx := fun _ H' => Q .non H', rt := Q } (start N vs) H) : C8.Cal P w K mg base (k + 1) x sp [] := by
  obtain ⟨f, fd, ⟨oc, od, dV, kV, doc, pm, an, cdv, ct, osl, rfl, lk, hcd⟩, kp, hm, b⟩ := B.ex
  refine ⟨f, _, ps, [], ?_, hm, kp, b, .nil⟩
  refine fn_of lk hcd S len fun A outer s H vs Q E hr hsp => ?_
  obtain ⟨t, h, q⟩ := hbody f cdv A outer s H vs Q E hr hsp
  exact ⟨t, h.nox, q⟩
theorem met_of {C : Addr} {m qual : Str} {st : Stmt} {N ps : List Str} {k : Nat} {sp : Sp} (c : Cls K C) (B : MetB K C m qual st ps) (S : FnScope N ps (defScope st)) (len : ∀ vs H Q E, sp vs H Q E → vs.length = ps.length)
    (hbody : ∀ (f : Addr) (cdv : Value) (A : Around) (outer : List Env) (s : Shared) (H : Hp) (vs : List V) (Q : VK) (E : XK), Room k (A.deeper (envOfC qual (defScope st) s.heap.objs.size f cdv)) → sp vs H Q E →
      ∃ t, PSs (cxOf CX0 P w K mg base N qual (defScope st) f cdv A outer s H E).nox (defBody st) t ∧ t { nx := fun _ H' => Q .non H', rt := Q } (start N vs) H) : C8.Met P w K mg base (k + 1) C m sp [] := by
  obtain ⟨f, fd, ⟨oc, od, dV, kV, doc, pm, an, cdv, ct, osl, rfl, lk, hcd⟩, me, b⟩ := B.ex
  refine ⟨f, _, ps, [], c, me, ?_, b, .nil⟩
  refine fn_of lk hcd S len fun A outer s H vs Q E hr hsp => ?_
  obtain ⟨t, h, q⟩ := hbody f cdv A outer s H vs Q E hr hsp
  exact ⟨t, h.nox, q⟩
theorem mak_of {x qual : Str} {C : Addr} {st : Stmt} {N ps : List Str} {k : Nat} {sp : Sp} (B : IniB K mg x C qual st ps) (S : FnScope N ps (defScope st)) (len : ∀ vs H Q E, sp vs H Q E → vs.length = ps.length)
    (hbody : ∀ (f : Addr) (cdv : Value) (A : Around) (outer : List Env) (s : Shared) (H : Hp) (vs : List V) (Q : VK) (E : XK), Room k (A.deeper (envOfC qual (defScope st) s.heap.objs.size f cdv)) → sp vs H Q E →
      ∃ t, PSs (cxOf CX0 P w K mg base N qual (defScope st) f cdv A outer s H E).nox (defBody st) t ∧ t { nx := fun _ H' => Q .non H', rt := Q } (start N vs) H) : C8.Mak P w K mg base (k + 1) x C sp [] := by
  obtain ⟨f, fd, ⟨oc, od, dV, kV, doc, pm, an, cdv, ct, osl, rfl, lk, hcd⟩, M, hm, b⟩ := B.ex
  refine ⟨f, _, ps, [], M, ?_, hm, b, .nil⟩
  refine fn_of lk hcd S len fun A outer s H vs Q E hr hsp => ?_
  obtain ⟨t, h, q⟩ := hbody f cdv A outer s H vs Q E hr hsp
  exact ⟨t, h.nox, q⟩
end

/-! ### heaps -/
theorem upk {H : Hp} {p a : Addr} {u o : HO} (hp : H p = none) (ha : H a = some o) : upd H p u a = some o := by
  rw [upd_ne (ne_of_none ha hp)]
  exact ha
/-- .. another thing is changed -/
theorem upo {H : Hp} {p a : Addr} {u o o' : HO} (hp : H p = some o') (ha : H a = some o) (hne : o ≠ o') : upd H p u a = some o := by
  rw [upd_ne (ne_of ha hp hne)]
  exact ha
theorem upn {H : Hp} {p a : Addr} {u : HO} (h : upd H p u a = none) : H a = none ∧ a ≠ p := by
  by_cases e : a = p
  · rw [e, upd_same] at h
    cases h
  · rw [upd_ne e] at h
    exact ⟨h, e⟩
theorem Same.new {H : Hp} {p : Addr} {u : HO} (hp : H p = none) : Same H (upd H p u) := fun _ _ h => upk hp h
/-- a thing that was not there is changed -/
theorem Same.put {H H' : Hp} {p : Addr} {u : HO} (s : Same H H') (hp : H p = none) : Same H (upd H' p u) := fun b o h => by
  rw [upd_ne (ne_of_none h hp)]
  exact s _ _ h
/-- all but r is as it was -/
def Kp (r : Addr) (H H' : Hp) : Prop := ∀ b o, b ≠ r → H b = some o → H' b = some o
theorem Kp.refl {r : Addr} {H : Hp} : Kp r H H := fun _ _ _ h => h
theorem Kp.trans {r : Addr} {H H1 H2 : Hp} (a : Kp r H H1) (b : Kp r H1 H2) : Kp r H H2 := fun c o n h => b c o n (a c o n h)
theorem Kp.of {r : Addr} {H H' : Hp} (s : Same H H') : Kp r H H' := fun b o _ h => s b o h
theorem Kp.own {r : Addr} {H H' : Hp} {u : HO} (a : Kp r H H') : Kp r H (upd H' r u) := fun b o n h => by
  rw [upd_ne n]
  exact a b o n h
theorem Kp.put {r : Addr} {H H' : Hp} {p : Addr} {u : HO} (a : Kp r H H') (hp : H p = none) : Kp r H (upd H' p u) := fun b o n h => by
  rw [upd_ne (ne_of_none h hp)]
  exact a b o n h
theorem Kp.new {r : Addr} {H H' : Hp} {p : Addr} {u : HO} (a : Kp r H H') (hp : H' p = none) : Kp r H (upd H' p u) := a.trans (Kp.of (Same.new hp))
theorem Kp.free {r : Addr} {H H' : Hp} {p : Addr} {o : HO} (a : Kp r H H') (hr : H' r = some o) (hp : H' p = none) : H p = none := by
  cases q : H p with
  | none => rfl
  | some u =>
    have n : p ≠ r := fun e => by rw [e, hr] at hp; cases hp
    rw [a p u n q] at hp
    cases hp
def Kp2 (r q : Addr) (H H' : Hp) : Prop := ∀ b o, b ≠ r → b ≠ q → H b = some o → H' b = some o
theorem Kp2.refl {r q : Addr} {H : Hp} : Kp2 r q H H := fun _ _ _ _ h => h
theorem Kp2.trans {r q : Addr} {H H1 H2 : Hp} (a : Kp2 r q H H1) (b : Kp2 r q H1 H2) : Kp2 r q H H2 := fun c o n m h => b c o n m (a c o n m h)
theorem Kp2.of {r q : Addr} {H H' : Hp} (s : Same H H') : Kp2 r q H H' := fun b o _ _ h => s b o h
theorem Kp2.l {r q : Addr} {H H' : Hp} {u : HO} (a : Kp2 r q H H') : Kp2 r q H (upd H' r u) := fun b o n m h => by
  rw [upd_ne n]
  exact a b o n m h
theorem Kp2.r {r q : Addr} {H H' : Hp} {u : HO} (a : Kp2 r q H H') : Kp2 r q H (upd H' q u) := fun b o n m h => by
  rw [upd_ne m]
  exact a b o n m h
theorem Kp2.put {r q : Addr} {H H' : Hp} {p : Addr} {u : HO} (a : Kp2 r q H H') (hp : H p = none) : Kp2 r q H (upd H' p u) := fun b o n m h => by
  rw [upd_ne (ne_of_none h hp)]
  exact a b o n m h
theorem Kp2.new {r q : Addr} {H H' : Hp} {p : Addr} {u : HO} (a : Kp2 r q H H') (hp : H' p = none) : Kp2 r q H (upd H' p u) := a.trans (Kp2.of (Same.new hp))
/-- tuples are kept -/
def TK (H H' : Hp) : Prop := ∀ b xs, H b = some (.tup xs) → H' b = some (.tup xs)
theorem TK.refl {H : Hp} : TK H H := fun _ _ h => h
theorem TK.trans {H H1 H2 : Hp} (a : TK H H1) (b : TK H1 H2) : TK H H2 := fun c o h => b c o (a c o h)
theorem TK.of {H H' : Hp} (s : Same H H') : TK H H' := fun _ _ h => s _ _ h
theorem TK.new {H : Hp} {p : Addr} {u : HO} (hp : H p = none) : TK H (upd H p u) := TK.of (Same.new hp)
theorem TK.at {H : Hp} {p : Addr} {u o : HO} (hp : H p = some o) (ho : ∀ xs, o ≠ .tup xs) : TK H (upd H p u) := fun b xs h => by
  rw [upd_ne (ne_of h hp fun e => ho xs e.symm)]
  exact h
theorem TK.kp {r : Addr} {H H' : Hp} {o : HO} (a : Kp r H H') (hr : H r = some o) (ho : ∀ xs, o ≠ .tup xs) : TK H H' := fun b xs h => a b _ (ne_of h hr fun e => ho xs e.symm) h
theorem TK.kp2 {r q : Addr} {H H' : Hp} {o u : HO} (a : Kp2 r q H H') (hr : H r = some o) (ho : ∀ xs, o ≠ .tup xs) (hq : H q = some u) (hu : ∀ xs, u ≠ .tup xs) : TK H H' := fun b xs h =>
  a b _ (ne_of h hr fun e => ho xs e.symm) (ne_of h hq fun e => hu xs e.symm) h

/-! ### data of tuples -/
inductive D where
  | non | bl (b : Bool) | int (i : Int) | str (s : Str) | tup (ds : List D)
mutual
inductive Da (H : Hp) : V → D → Prop
  | non : Da H .non .non
  | bl (b : Bool) : Da H (.bl b) (.bl b)
  | int (i : Int) : Da H (.int i) (.int i)
  | str (s : Str) : Da H (.str s) (.str s)
  | tup {a : Addr} {xs : List V} {ds : List D} : H a = some (.tup xs) → DaAll H xs ds → Da H (.ref a) (.tup ds)
inductive DaAll (H : Hp) : List V → List D → Prop
  | nil : DaAll H [] []
  | cons {v : V} {vs : List V} {d : D} {ds : List D} : Da H v d → DaAll H vs ds → DaAll H (v :: vs) (d :: ds)
end
mutual
theorem Da.tk {H H' : Hp} (t : TK H H') : ∀ {v : V} {d : D}, Da H v d → Da H' v d
  | _, _, .non => .non
  | _, _, .bl b => .bl b
  | _, _, .int i => .int i
  | _, _, .str s => .str s
  | _, _, .tup h a => .tup (t _ _ h) (DaAll.tk t a)
theorem DaAll.tk {H H' : Hp} (t : TK H H') : ∀ {vs : List V} {ds : List D}, DaAll H vs ds → DaAll H' vs ds
  | _, _, .nil => .nil
  | _, _, .cons h a => .cons (Da.tk t h) (DaAll.tk t a)
end
theorem DaAll.length {H : Hp} : ∀ {vs : List V} {ds : List D}, DaAll H vs ds → vs.length = ds.length
  | _, _, .nil => rfl
  | _, _, .cons _ a => congrArg Nat.succ (DaAll.length a)
theorem DaAll.get {H : Hp} : ∀ {vs : List V} {ds : List D} {i : Nat} {d : D}, DaAll H vs ds → ds[i]? = some d → ∃ v, vs[i]? = some v ∧ Da H v d
  | _, _, 0, _, .cons h _, e => ⟨_, rfl, by cases Option.some.inj e; exact h⟩
  | _, _, i + 1, _, .cons _ a, e => DaAll.get (i := i) a e
theorem DaAll.get' {H : Hp} : ∀ {vs : List V} {ds : List D} {i : Nat} {v : V}, DaAll H vs ds → vs[i]? = some v → ∃ d, ds[i]? = some d ∧ Da H v d
  | _, _, 0, _, .cons h _, e => ⟨_, rfl, by cases Option.some.inj e; exact h⟩
  | _, _, i + 1, _, .cons _ a, e => DaAll.get' (i := i) a e
theorem DaAll.snoc {H : Hp} {v : V} {d : D} (h : Da H v d) : ∀ {vs : List V} {ds : List D}, DaAll H vs ds → DaAll H (vs ++ [v]) (ds ++ [d])
  | _, _, .nil => .cons h .nil
  | _, _, .cons k a => .cons k (DaAll.snoc h a)
theorem Da.inv {H : Hp} {v : V} {ds : List D} (h : Da H v (.tup ds)) : ∃ a xs, v = .ref a ∧ H a = some (.tup xs) ∧ DaAll H xs ds := by
  cases h with
  | tup h a => exact ⟨_, _, rfl, h, a⟩
theorem Da.int_inv {H : Hp} {v : V} {i : Int} (h : Da H v (.int i)) : v = .int i := by cases h; rfl
theorem DaAll.ints {H : Hp} : ∀ {vs : List V} {ns : List Int}, DaAll H vs (ns.map D.int) → vs = ns.map V.int
  | _, [], .nil => rfl
  | _, n :: ns, .cons h a => by rw [h.int_inv, DaAll.ints a]; rfl
theorem DaAll.of_ints {H : Hp} : ∀ (ns : List Int), DaAll H (ns.map V.int) (ns.map D.int)
  | [] => .nil
  | n :: ns => .cons (.int n) (DaAll.of_ints ns)
abbrev iD (ns : List Int) : D := .tup (ns.map D.int)
theorem Da.ints {H : Hp} {v : V} {ns : List Int} (h : Da H v (iD ns)) : ∃ a, v = .ref a ∧ H a = some (.tup (ns.map V.int)) := by
  obtain ⟨a, xs, e, h1, h2⟩ := h.inv
  rw [DaAll.ints h2] at h1
  exact ⟨a, e, h1⟩
theorem Da.of_ints {H : Hp} {a : Addr} {ns : List Int} (h : H a = some (.tup (ns.map V.int))) : Da H (.ref a) (iD ns) := .tup h (DaAll.of_ints ns)
def entD : Option Ent → D
  | none => .non
  | some e => iD [e.1, e.2.1, e.2.2]
abbrev rowD (r : List (Option Ent)) : D := .tup (r.map entD)
abbrev tabD (t : Tab) : D := .tup (t.map rowD)
abbrev sqD (q : Sq) : D := iD [q.1, q.2.1, q.2.2]
abbrev floD (F : List Sq) : D := .tup (F.map sqD)
abbrev wkD (x y h s : Int) : D := iD [x, y, h, s]
theorem Da.map {α : Type} {H : Hp} {v : V} {f : α → D} {l : List α} (h : Da H v (.tup (l.map f))) : ∃ (a : Addr) (xs : List V), v = .ref a ∧ H a = some (.tup xs) ∧ xs.length = l.length ∧ (∀ (i : Nat) y, l[i]? = some y → ∃ x : V, xs[i]? = some x ∧ Da H x (f y)) ∧ ∀ (i : Nat) x, xs[i]? = some x → ∃ y : α, l[i]? = some y ∧ Da H x (f y) := by
  obtain ⟨a, xs, e, h1, h2⟩ := h.inv
  refine ⟨a, xs, e, h1, by rw [h2.length, List.length_map], fun i y hy => h2.get (by rw [List.getElem?_map, hy]; rfl), fun i x hx => ?_⟩
  obtain ⟨d, hd, hx'⟩ := h2.get' hx
  rw [List.getElem?_map] at hd
  cases q : l[i]? with
  | none => rw [q] at hd; cases hd
  | some y =>
    rw [q] at hd
    cases Option.some.inj hd
    exact ⟨y, rfl, hx'⟩

/-! ### the row of draws -/
structure Row (K : PySem.W.Frag) (sc r : Addr) (H : Hp) : Prop where
  at_ : ∃ i s g : Int, H r = some (.lst [.ref sc, .int i, .int s, .int g]) ∧ 0 ≤ i ∧ 0 ≤ s ∧ s < 2147483647
  sc_ : ∃ ns : List Int, SqL K H sc (ns.map V.int)
theorem Row.ne {K : PySem.W.Frag} {sc r : Addr} {H : Hp} (R : Row K sc r H) {u : HO} (h : H sc = some u) (hu : (∃ ns : List Int, u = .lst (ns.map V.int)) ∨ ∃ o w, u = .frz o w) : sc ≠ r := by
  obtain ⟨i, s, g, e, _⟩ := R.at_
  intro q
  rw [q, e] at h
  cases h
  rcases hu with ⟨ns, z⟩ | ⟨o, w, z⟩
  · injection z with z
    cases ns with
    | nil => cases z
    | cons n ns =>
      injection z with z _
      cases z
  · cases z
theorem seq_kp {K : PySem.W.Frag} {sc r : Addr} {H H' : Hp} {ns : List Int} (R : Row K sc r H) (h : SqL K H sc (ns.map V.int)) (k : Kp r H H') : SqL K H' sc (ns.map V.int) := by
  rcases h with (h | ⟨o, h⟩) | h
  · exact .inl (.inl (k _ _ (R.ne h (.inl ⟨_, rfl⟩)) h))
  · exact .inl (.inr ⟨o, k _ _ (R.ne h (.inr ⟨_, _, rfl⟩)) h⟩)
  · exact .inr h
theorem Row.kp {K : PySem.W.Frag} {sc r : Addr} {H H' : Hp} (R : Row K sc r H) (k : Kp r H H') {i s g : Int} (h : H' r = some (.lst [.ref sc, .int i, .int s, .int g])) (hi : 0 ≤ i) (hs : 0 ≤ s) (hs' : s < 2147483647) : Row K sc r H' := by
  obtain ⟨ns, q⟩ := R.sc_
  exact ⟨⟨i, s, g, h, hi, hs, hs'⟩, ns, seq_kp R q k⟩
theorem Row.same {K : PySem.W.Frag} {sc r : Addr} {H H' : Hp} (R : Row K sc r H) (k : Same H H') : Row K sc r H' := by
  obtain ⟨i, s, g, e, h1, h2, h3⟩ := R.at_
  exact R.kp (Kp.of k) (k _ _ e) h1 h2 h3
theorem Row.lst {K : PySem.W.Frag} {sc r : Addr} {H : Hp} (R : Row K sc r H) : ∃ xs, H r = some (.lst xs) := by
  obtain ⟨i, s, g, e, _⟩ := R.at_
  exact ⟨_, e⟩
theorem Row.tk {K : PySem.W.Frag} {sc r : Addr} {H H' : Hp} (R : Row K sc r H) (k : Kp r H H') : TK H H' := by
  obtain ⟨xs, e⟩ := R.lst
  exact TK.kp k e fun _ z => by cases z
theorem Row.free {K : PySem.W.Frag} {sc r : Addr} {H H' : Hp} (R : Row K sc r H') (k : Kp r H H') {p : Addr} (hp : H' p = none) : H p = none := by
  obtain ⟨xs, e⟩ := R.lst
  exact k.free e hp
/-- a thing that was not there at H is changed -/
theorem Row.put {K : PySem.W.Frag} {sc r : Addr} {H H' : Hp} {p : Addr} {u : HO} (R0 : Row K sc r H) (R : Row K sc r H') (k : Kp r H H') (hp : H p = none) : Row K sc r (upd H' p u) := by
  obtain ⟨i, s, g, e, h1, h2, h3⟩ := R.at_
  obtain ⟨xs, e0⟩ := R0.lst
  refine R0.kp (i := i) (s := s) (g := g) (k.put hp) ?_ h1 h2 h3
  rw [upd_ne (ne_of_none e0 hp)]
  exact e

/-! ### squares -/
abbrev kk (q : Int × Int) : List Key := [Sum.inl q.1, Sum.inl q.2]
theorem kk_inj {a b : Int × Int} (h : kk a = kk b) : a = b := by
  injection h with h1 h2
  injection h2 with h2 _
  exact Prod.ext (Sum.inl.inj h1) (Sum.inl.inj h2)
structure SqK (kvs : List (List Key × V)) (f : Int × Int → Int) : Prop where
  nd : (kvs.map (·.1)).Nodup
  ks : ∀ k ∈ kvs.map (·.1), ∃ q, k = kk q
  vl : ∀ q, (valV kvs (kk q) = none ∧ f q = 0) ∨ valV kvs (kk q) = some (.int (f q))
theorem SqK.nil : SqK [] (fun _ => 0) := ⟨List.Pairwise.nil, (fun _ h => by cases h), fun _ => Or.inl ⟨rfl, rfl⟩⟩
theorem nd_putK' {κ : Type} [DecidableEq κ] {kvs : List (κ × V)} {k : κ} (v : V) (hn : (kvs.map (·.1)).Nodup) : ((putK kvs k v).map (·.1)).Nodup ∧ ∀ j ∈ (putK kvs k v).map (·.1), j = k ∨ j ∈ kvs.map (·.1) := by
  cases h : valV kvs k with
  | none =>
    refine ⟨nd_putK v hn h, fun j hj => ?_⟩
    rw [putK_new v h, List.map_append] at hj
    rcases List.mem_append.mp hj with q | q
    · exact .inr q
    · exact .inl (List.mem_singleton.mp q)
  | some u =>
    have e : (kvs.any fun kv => decide (kv.1 = k)) = true := by rw [valV_any, h]; rfl
    have e2 : (putK kvs k v).map (·.1) = kvs.map (·.1) := by
      unfold putK
      rw [if_pos e, List.map_map]
      refine List.map_congr_left fun kv _ => ?_
      show (if kv.1 = k then (kv.1, v) else kv).1 = kv.1
      split <;> rfl
    rw [e2]
    exact ⟨hn, fun j hj => .inr hj⟩
theorem SqK.put {kvs : List (List Key × V)} {f : Int × Int → Int} (S : SqK kvs f) (q : Int × Int) (c : Int) : SqK (putK kvs (kk q) (.int c)) (Way.put f q c) := by
  obtain ⟨n1, n2⟩ := nd_putK' (k := kk q) (.int c) S.nd
  refine ⟨n1, fun k hk => ?_, fun p => ?_⟩
  · rcases n2 k hk with e | e
    · exact ⟨q, e⟩
    · exact S.ks k e
  · rw [valV_put]
    by_cases e : p = q
    · rw [e, if_pos rfl, Way.put_same]
      exact .inr rfl
    · rw [if_neg fun z => e (kk_inj z), Way.put_ne e]
      exact S.vl p
theorem valV_drop {κ : Type} [DecidableEq κ] (k j : κ) : ∀ kvs : List (κ × V), valV (dropK kvs k) j = if j = k then none else valV kvs j
  | [] => by simp [dropK, valV]
  | p :: r => by
    have ih := valV_drop k j r
    by_cases e : p.1 = k
    · rw [dropK_pos e, ih]
      by_cases e2 : j = k
      · rw [if_pos e2, if_pos e2]
      · rw [if_neg e2, if_neg e2, valV_neg fun z => e2 (z.symm.trans e)]
    · rw [dropK_neg e]
      by_cases e3 : p.1 = j
      · rw [valV_pos e3, valV_pos e3, if_neg fun z => e (e3.trans z)]
      · rw [valV_neg e3, valV_neg e3, ih]
theorem SqK.drop {kvs : List (List Key × V)} {f : Int × Int → Int} (S : SqK kvs f) (q : Int × Int) : SqK (dropK kvs (kk q)) (Way.put f q 0) := by
  refine ⟨nd_dropK S.nd, fun k hk => ?_, fun p => ?_⟩
  · obtain ⟨z, hz, e⟩ := List.mem_map.mp hk
    exact S.ks k (e ▸ List.mem_map.mpr ⟨z, dropK_mem hz, rfl⟩)
  · rw [valV_drop]
    by_cases e : p = q
    · rw [e, if_pos rfl, Way.put_same]
      exact .inl ⟨rfl, rfl⟩
    · rw [if_neg fun z => e (kk_inj z), Way.put_ne e]
      exact S.vl p
theorem SqK.absent {kvs : List (List Key × V)} {f : Int × Int → Int} (S : SqK kvs f) {q : Int × Int} (h : valV kvs (kk q) = none) : Way.put f q 0 = f := by
  funext p
  by_cases e : p = q
  · rw [e, Way.put_same]
    rcases S.vl q with ⟨_, z⟩ | z
    · exact z.symm
    · rw [h] at z; cases z
  · rw [Way.put_ne e]
theorem SqK.getD {kvs : List (List Key × V)} {f : Int × Int → Int} (S : SqK kvs f) (q : Int × Int) : (valV kvs (kk q)).getD (.int 0) = .int (f q) := by
  rcases S.vl q with ⟨h, z⟩ | h
  · rw [h, z]; rfl
  · rw [h]; rfl
/-- the dict at d holds the squares f, at most n of them -/
def SqD (H : Hp) (d : Addr) (f : Int × Int → Int) (n : Nat) : Prop := ∃ kvs, H d = some (.dT kvs) ∧ SqK kvs f ∧ kvs.length ≤ n
theorem SqD.mono {H : Hp} {d : Addr} {f : Int × Int → Int} {n m : Nat} (h : SqD H d f n) (l : n ≤ m) : SqD H d f m := by
  obtain ⟨kvs, a, b, c⟩ := h
  exact ⟨kvs, a, b, Nat.le_trans c l⟩
theorem SqD.same {H H' : Hp} {d : Addr} {f : Int × Int → Int} {n : Nat} (h : SqD H d f n) (s : Same H H') : SqD H' d f n := by
  obtain ⟨kvs, a, b, c⟩ := h
  exact ⟨kvs, s _ _ a, b, c⟩
end WayP
/-! is_in .. need_floor -/
namespace WayP
open PySem PySem.Spec PyProof.Rows L2 WayR Way
section
variable {P : Program} {w : World} {K : PySem.W.Frag} {mg : Str → Option Value} {base : Heap} {cW cE cN hA h0 h1 h2 h3 : Addr}
/-! ### isinstance -/
theorem kII : kitB "int" "int" = some true := by decide +kernel
theorem kIB : kitB "int" "bool" = some false := by decide +kernel
theorem kTT : kitB "tuple" "tuple" = some true := by decide +kernel
theorem ifT {A B : Prop} {c : Bool} (hc : c = true) (h : A) : if c = true then A else B := by
  rw [if_pos hc]
  exact h
theorem ifF {A B : Prop} {c : Bool} (hc : c = false) (h : B) : if c = true then A else B := by
  rw [if_neg (by rw [hc]; exact Bool.false_ne_true)]
  exact h

abbrev rLenQ (K : PySem.W.Frag) : List V → Hp → VK → Prop := fun xs H Q => ∃ p ys, xs = [.ref p] ∧ (SqL K H p ys ∨ SqT K H p ys) ∧ Q (.int ys.length) H
abbrev rTupQ (K : PySem.W.Frag) : List V → Hp → VK → Prop := fun xs H Q => ∃ p ys, xs = [.ref p] ∧ ((SqL K H p ys ∧ ∀ l, H l = none → Q (.ref l) (upd H l (.tup ys))) ∨ (SqT K H p ys ∧ Q (.ref p) H))

/-! ### is_in -/
def spIsIn : Sp := fun vs H Q _ => ∃ v lo hi : Int, vs = [.int v, .int lo, .int hi] ∧ lo ≤ v ∧ v ≤ hi ∧ Q (.bl true) H
theorem ok_is_in (T : Txt K mg cW cE cN hA h0 h1 h2 h3) : C8.Cal P w K mg base 1 "is_in" spIsIn [] := by
  refine cal_of T.d_is_in sc_is_in (fun vs H Q E h => ?_) (fun f cdv A outer s H vs Q E hr h => ?_)
  · obtain ⟨v, lo, hi, rfl, _⟩ := h
    rfl
  · obtain ⟨v, lo, hi, rfl, l1, l2, q⟩ := h
    have hu := hu_of hr
    refine ⟨_, pss_one (ps_ret (pe_and (pe_callB call_isi (by rfl) T.zisinstance (by decide +kernel) (pa_cons (pv 0) (pa_cons (pe_bltn (v := .ty "int") (by rfl) T.zint (by decide +kernel) rfl) pa_nil))) (pe_and (pe_not (pe_callB call_isi (by rfl) T.zisinstance (by decide +kernel) (pa_cons (pv 0) (pa_cons (pe_bltn (v := .ty "bool") (by rfl) T.zbool (by decide +kernel) rfl) pa_nil)))) (pe_one (pe_chain op_le op_le (pv 1) (pv 0) (pv 2)))))), ?_⟩
    refine ⟨_, rfl, _, _, _, _, _, rfl, .ty _, .base (.int _), kit_ty kII, true, rfl, ?_⟩
    refine ⟨_, rfl, _, _, _, _, _, rfl, .ty _, .base (.int _), kit_ty kIB, false, rfl, true, rfl, ?_⟩
    refine ⟨_, rfl, _, rfl, _, _, rfl, rfl, _, rfl, ?_⟩
    refine ifT (decide_eq_true l1) ⟨_, rfl, _, _, rfl, rfl, ?_⟩
    show Q (V.bl (decide (v ≤ hi))) H
    rw [decide_eq_true l2]
    exact q

/-! ### is_entry -/
def spIsEntry : Sp := fun vs H Q _ => ∃ (x : V) (n m : Int) (o : Option Ent), vs = [x, .int n, .int m] ∧ Da H x (entD o) ∧ (∀ e, o = some e → (0 ≤ e.1 ∧ e.1 < m) ∧ (0 ≤ e.2.1 ∧ e.2.1 ≤ 3) ∧ (0 ≤ e.2.2 ∧ e.2.2 < n)) ∧ Q (.bl true) H
theorem ok_is_entry (T : Txt K mg cW cE cN hA h0 h1 h2 h3) : C8.Cal P w K mg base 2 "is_entry" spIsEntry [] := by
  refine cal_of T.d_is_entry sc_is_entry (fun vs H Q E h => ?_) (fun f cdv A outer s H vs Q E hr h => ?_)
  · obtain ⟨x, n, m, o, rfl, _⟩ := h
    rfl
  · obtain ⟨x, n, m, o, rfl, hx, hb, q⟩ := h
    have hu := hu_of hr
    refine ⟨_, pss_cons (ps_if (pt_cmpR op_isN (pv 0) pe_non (nomark _))
        (pss_one (ps_ret (pe_bl)))
        pss_nil)
      (pss_cons (ps_if (PW.pt (pw_or (pt_not (pt_val (pe_callB call_isi (by rfl) T.zisinstance (by decide +kernel) (pa_cons (pv 0) (pa_cons (pe_bltn (v := .ty "tuple") (by rfl) T.ztuple (by decide +kernel) rfl) pa_nil))))) (pw_or1 (pt_cmpR op_ne (pe_callB call_len_seq (by rfl) T.zlen PySem.boot_len (pa_cons (pv 0) pa_nil)) (pe_int) (nomark _)))))
        (pss_one (ps_ret (pe_bl)))
        pss_nil)
      (pss_one (ps_ret (pe_and (C8.pe_c (ok_is_in T) hr (by decide) rfl (pa_cons (pe_ix ix_tup (pv 0) (pe_int) (fun _ _ => rfl)) (pa_cons (pe_int) (pa_cons (pe_op op_sub (pv 2) (pe_int)) pa_nil)))) (pe_and (C8.pe_c (ok_is_in T) hr (by decide) rfl (pa_cons (pe_ix ix_tup (pv 0) (pe_int) (fun _ _ => rfl)) (pa_cons (pe_int) (pa_cons (pe_int) pa_nil)))) (pe_one (C8.pe_c (ok_is_in T) hr (by decide) rfl (pa_cons (pe_ix ix_tup (pv 0) (pe_int) (fun _ _ => rfl)) (pa_cons (pe_int) (pa_cons (pe_op op_sub (pv 1) (pe_int)) pa_nil)))))))))), ?_⟩
    cases o with
    | none =>
      cases hx
      refine ⟨_, rfl, rfl, true, rfl, ?_⟩
      exact q
    | some e =>
      obtain ⟨⟨p0, p1⟩, ⟨t0, t1⟩, ⟨s0, s1⟩⟩ := hb e rfl
      obtain ⟨a, rfl, ha⟩ := hx.ints
      refine ⟨_, rfl, rfl, false, rfl, ?_⟩
      refine ⟨_, rfl, _, _, _, _, _, rfl, .ty _, .base (.tup ha), kit_ty kTT, true, rfl, ?_⟩
      refine ⟨_, rfl, _, _, rfl, .inr (SqT.of ha), ⟨rfl, false, rfl, ?_⟩⟩
      refine ⟨_, rfl, _, _, _, _, rfl, rfl, SqT.of ha, rfl, _, rfl, _, _, rfl, rfl, _, _, _, rfl, p0, (by show e.1 ≤ m - 1; omega), true, rfl, ?_⟩
      refine ⟨_, rfl, _, _, _, _, rfl, rfl, SqT.of ha, rfl, _, _, _, rfl, t0, t1, true, rfl, ?_⟩
      refine ⟨_, rfl, _, _, _, _, rfl, rfl, SqT.of ha, rfl, _, rfl, _, _, rfl, rfl, _, _, _, rfl, s0, (by show e.2.2 ≤ n - 1; omega), ?_⟩
      exact q

/-! ### is_table, need_table -/
theorem notT {b : Bool} (h : b = true) : (!b) = false := by rw [h]; rfl
/-- the second loop of a comprehension, over a tuple -/
theorem lc2_in {K : PySem.W.Frag} {a : Addr} {xs : List V} {B : V → Hp → (Hp → Prop) → Prop} {H1 : Hp} {Nx : Hp → Prop} (Pv : Nat → Hp → Prop) (h0 : Pv 0 H1) (hl : ∀ i H, i ≤ xs.length → Pv i H → SqT K H a xs)
    (hs : ∀ i x H, xs[i]? = some x → Pv i H → B x H (Pv (i + 1))) (hd : ∀ H, Pv xs.length H → Nx H) :
    ∃ W1 : Nat → Nat → Hp → Prop, (∃ m, W1 0 m H1) ∧ ∀ j k H, W1 j k H →
      ((Itt K a).stop j H ∧ Nx H) ∨ ((Itt K a).go j H ∧ ∃ Nx1 : Hp → Prop, (∀ H', Nx1 H' → ∃ k', k' < k ∧ W1 (j + 1) k' H') ∧ ∀ x H', (Itt K a).yld j H x H' → B x H' Nx1) := by
  refine ⟨fun i m H => m = xs.length - i ∧ i ≤ xs.length ∧ Pv i H, ⟨xs.length, by simp, Nat.zero_le _, h0⟩, ?_⟩
  rintro i m H ⟨rfl, hi, p⟩
  have q := hl i H hi p
  by_cases hlt : i < xs.length
  · refine .inr ⟨⟨xs, xs[i], q, by simp [hlt]⟩, Pv (i + 1), fun H' p' => ⟨xs.length - (i + 1), by omega, rfl, hlt, p'⟩, fun x H' y => ?_⟩
    obtain ⟨e, y⟩ := y
    subst e
    exact hs i x _ (y xs q) p
  · have e : i = xs.length := by omega
    subst e
    exact .inl ⟨⟨xs, q, Nat.le_refl _⟩, hd H p⟩
def spIsTable : Sp := fun vs H Q _ => ∃ (x : V) (t : Tab) (n : Nat), vs = [x] ∧ Da H x (tabD t) ∧ TabOk t n ∧ ∀ H', Same H H' → Q (.bl true) H'
theorem ok_is_table (T : Txt K mg cW cE cN hA h0 h1 h2 h3) : C8.Cal P w K mg base 3 "is_table" spIsTable [] := by
  refine cal_of T.d_is_table sc_is_table (fun vs H Q E h => ?_) (fun f cdv A outer s H vs Q E hr h => ?_)
  · obtain ⟨x, t, n, rfl, _⟩ := h
    rfl
  · obtain ⟨x, t, n, rfl, hx, ok, q⟩ := h
    have hu := hu_of hr
    refine ⟨_, pss_cons (ps_if (PW.pt (pw_or (pt_not (pt_val (pe_callB call_isi (by rfl) T.zisinstance (by decide +kernel) (pa_cons (pv 0) (pa_cons (pe_bltn (v := .ty "tuple") (by rfl) T.ztuple (by decide +kernel) rfl) pa_nil))))) (pw_or1 (pt_not (pt_chain op_le op_le (pe_int) (pe_callB call_len_seq (by rfl) T.zlen PySem.boot_len (pa_cons (pv 0) pa_nil)) (C8.pe_gc rfl T.cMOST_STATES))))))
        (pss_one (ps_ret (pe_bl)))
        pss_nil)
      (pss_cons (ps_for PassesOwn.never rfl (pi_tup (pv 0)) (pg_name (i := 1) sc_is_table.nd rfl (Or.inl rfl))
        (pss_one (ps_if (PW.pt (pw_or (pt_not (pt_val (pe_callB call_isi (by rfl) T.zisinstance (by decide +kernel) (pa_cons (pv 1) (pa_cons (pe_bltn (v := .ty "tuple") (by rfl) T.ztuple (by decide +kernel) rfl) pa_nil))))) (pw_or (pt_not (pt_chain op_le op_le (pe_int) (pe_callB call_len_seq (by rfl) T.zlen PySem.boot_len (pa_cons (pv 1) pa_nil)) (C8.pe_gc rfl T.cMOST_COLOURS))) (pw_or1 (pt_cmpR op_ne (pe_callB call_len_seq (by rfl) T.zlen PySem.boot_len (pa_cons (pv 1) pa_nil)) (pe_callB call_len_seq (by rfl) T.zlen PySem.boot_len (pa_cons (pe_ix ix_tup (pv 0) (pe_int) (fun _ _ => rfl)) pa_nil)) (nomark _))))))
          (pss_one (ps_ret (pe_bl)))
          pss_nil)))
      (pss_one (ps_ret (pe_cmpR (op_eqD hr.units) (pe_lc2 (own := [("row", 1), ("entry", 2)]) (vs1 := [2]) (g := gName 1) (g1 := gName 2) (wi1 := iTup K (tVar 1)) (tt := tYes) rfl sc_is_table.nd (pi_tup (pv 0)) (blkOk_by (own := [("row", 1), ("entry", 2)]) (N := nm_is_table) (sc := defScope s_is_table) (by decide +kernel)) (by decide) (fun _ _ _ _ _ => pg_name (i := 1) sc_is_table.nd rfl (Or.inl rfl)) (fun _ _ _ _ _ => pts_nil) (fun _ _ _ _ _ => (pi_tup (pv 1))) (fun _ _ _ _ _ => pg_name (i := 2) sc_is_table.nd rfl (Or.inl rfl)) (fun _ _ _ _ _ => pts_one (pt_not (pt_val (C8.pe_c (ok_is_entry T) hr (by decide) rfl (pa_cons (pv 2) (pa_cons (pe_callB (r := rLenQ K) call_len_seq (by rfl) T.zlen PySem.boot_len (pa_cons (pv 0) pa_nil)) (pa_cons (pe_callB (r := rLenQ K) call_len_seq (by rfl) T.zlen PySem.boot_len (pa_cons (pe_ix (r := rIxT K) ix_tup (pv 0) (pe_int) (fun _ _ => rfl)) pa_nil)) pa_nil))))))) (fun _ _ _ _ _ => (pv 2))) (pe_lst pa_nil) (nomark _))))), ?_⟩
    obtain ⟨a, xs, rfl, ha, hlen, hget, hget'⟩ := hx.map
    have i1 : (1 : Int) ≤ (xs.length : Int) := by have := ok.s1; omega
    have i2 : (xs.length : Int) ≤ 10 := by have := ok.s2; omega
    obtain ⟨r0, hr0⟩ : ∃ r0, t[0]? = some r0 := ⟨t[0]'(by have := ok.s1; omega), List.getElem?_eq_getElem _⟩
    obtain ⟨x0, hx0, hd0⟩ := hget 0 r0 hr0
    obtain ⟨b0, ys0, rfl, hb0, hl0, _⟩ := hd0.map
    have l0 : ys0.length = n := hl0.trans (ok.rows r0 (List.mem_of_getElem? hr0))
    have n2 : (2 : Int) ≤ (n : Int) := by have := ok.c1; omega
    have n6 : (n : Int) ≤ 6 := by have := ok.c2; omega
    refine ⟨_, rfl, _, _, _, _, _, rfl, .ty _, .base (.tup ha), kit_ty kTT, true, rfl, ?_⟩
    refine ⟨_, rfl, _, _, rfl, .inr (SqT.of ha), _, _, rfl, rfl, _, rfl, ifT (decide_eq_true i1) ⟨_, _, rfl, rfl, _, rfl, ?_⟩⟩
    refine ifF (notT (decide_eq_true i2)) ?_
    refine ⟨_, rfl, a, rfl, ⟨_, SqT.of ha⟩, for_tup (xs := xs) (fun i σ H' => ∃ v v', σ = [some (.ref a), v, v'] ∧ H' = H) ⟨_, _, rfl, rfl⟩ (fun i σ H' _ ⟨_, _, _, e⟩ => by rw [e]; exact SqT.of ha) ?_ ?_⟩
    · rintro i y σ H' hi ⟨v, v', rfl, rfl⟩
      obtain ⟨r, hr', hd⟩ := hget' i y hi
      obtain ⟨b, ys, rfl, hb, hl, _⟩ := hd.map
      have ll : ys.length = n := hl.trans (ok.rows r (List.mem_of_getElem? hr'))
      have j1 : (2 : Int) ≤ (ys.length : Int) := by rw [ll]; exact n2
      have j2 : (ys.length : Int) ≤ 6 := by rw [ll]; exact n6
      refine ⟨_, rfl, _, _, _, _, _, rfl, .ty _, .base (.tup hb), kit_ty kTT, true, rfl, ?_⟩
      refine ⟨_, rfl, _, _, rfl, .inr (SqT.of hb), _, _, rfl, rfl, _, rfl, ifT (decide_eq_true j1) ⟨_, _, rfl, rfl, _, rfl, ?_⟩⟩
      refine ifF (notT (decide_eq_true j2)) ?_
      refine ⟨_, rfl, _, _, rfl, .inr (SqT.of hb), _, rfl, _, _, _, _, rfl, rfl, SqT.of ha, atI_nat hx0, _, _, rfl, .inr (SqT.of hb0), ⟨rfl, _, rfl, ?_⟩⟩
      refine ifF (by rw [ll, l0]; simp) ?_
      exact ⟨_, _, rfl, rfl⟩
    · rintro σ H' ⟨v, v', rfl, rfl⟩
      refine ⟨_, rfl, a, rfl, ⟨_, SqT.of ha⟩, fun D hD => ?_⟩
      have hS : Same H' (upd H' D (.lst [])) := Same.new hD
      refine lc2_in (xs := xs) (fun i H1 => H1 = upd H' D (.lst [])) rfl (fun i H1 _ e => by rw [e]; exact SqT.of (hS _ _ ha)) ?_ ?_
      · rintro i y H1 hi rfl
        obtain ⟨r, hr', hd⟩ := hget' i y hi
        obtain ⟨b, ys, rfl, hb, hl, _, hy'⟩ := hd.map
        refine ⟨rfl, ?_⟩
        refine ⟨_, rfl, b, rfl, ⟨_, SqT.of (hS _ _ hb)⟩, lc2_in (xs := ys) (fun i H1 => H1 = upd H' D (.lst [])) rfl (fun i H1 _ e => by rw [e]; exact SqT.of (hS _ _ hb)) ?_ (fun H1 e => e)⟩
        rintro j z H1 hj rfl
        obtain ⟨o, ho, hz⟩ := hy' j z hj
        refine ⟨rfl, _, rfl, _, rfl, _, _, rfl, .inr (SqT.of (hS _ _ ha)), _, rfl, _, _, _, _, rfl, rfl, SqT.of (hS _ _ ha), atI_nat hx0, _, _, rfl, .inr (SqT.of (hS _ _ hb0)), ?_⟩
        refine ⟨_, _, _, o, rfl, hz.tk (TK.of hS), fun e he => ?_, ⟨true, rfl, rfl⟩⟩
        rw [l0, hlen]
        exact ok.ents r (List.mem_of_getElem? hr') e (he ▸ List.mem_of_getElem? ho)
      · rintro H1 rfl
        refine ⟨Nat.zero_le _, fun p hp => ?_⟩
        refine ⟨.list [], .list [], Dp.lst (SqL.of (upk hp upd_same)) .nil, Dp.lst (SqL.of upd_same) .nil, by decide, by decide, ?_⟩
        exact q _ (hS.trans (Same.new hp))
def spNeedTable : Sp := fun vs H Q _ => ∃ (x : V) (t : Tab) (n : Nat), vs = [x] ∧ Da H x (tabD t) ∧ TabOk t n ∧ ∀ H', Same H H' → Q .non H'
theorem ok_need_table (T : Txt K mg cW cE cN hA h0 h1 h2 h3) : C8.Cal P w K mg base 4 "need_table" spNeedTable [] := by
  refine cal_of T.d_need_table sc_need_table (fun vs H Q E h => ?_) (fun f cdv A outer s H vs Q E hr h => ?_)
  · obtain ⟨x, t, n, rfl, _⟩ := h
    rfl
  · obtain ⟨x, t, n, rfl, hx, ok, q⟩ := h
    have hu := hu_of hr
    refine ⟨_, pss_one (ps_if (pt_not (pt_val (C8.pe_c (ok_is_table T) hr (by decide) rfl (pa_cons (pv 0) pa_nil))))
        (pss_one (ps_never))
        pss_nil), ?_⟩
    refine ⟨_, rfl, x, t, n, rfl, hx, ok, fun H' hS => ⟨true, rfl, ?_⟩⟩
    exact q _ hS

/-! ### is_place, is_square, need_floor -/
abbrev Bg : Int := 10 ^ 60
def spIsPlace : Sp := fun vs H Q _ => ∃ (a : Addr) (x y : Int), vs = [.ref a] ∧ H a = some (.tup [.int x, .int y]) ∧ (-Bg ≤ x ∧ x ≤ Bg) ∧ (-Bg ≤ y ∧ y ≤ Bg) ∧ Q (.bl true) H
theorem ok_is_place (T : Txt K mg cW cE cN hA h0 h1 h2 h3) : C8.Cal P w K mg base 2 "is_place" spIsPlace [] := by
  refine cal_of T.d_is_place sc_is_place (fun vs H Q E h => ?_) (fun f cdv A outer s H vs Q E hr h => ?_)
  · obtain ⟨a, x, y, rfl, _⟩ := h
    rfl
  · obtain ⟨a, x, y, rfl, ha, ⟨x1, x2⟩, ⟨y1, y2⟩, q⟩ := h
    have hu := hu_of hr
    refine ⟨_, pss_cons (ps_if (PW.pt (pw_or (pt_not (pt_val (pe_callB call_isi (by rfl) T.zisinstance (by decide +kernel) (pa_cons (pv 0) (pa_cons (pe_bltn (v := .ty "tuple") (by rfl) T.ztuple (by decide +kernel) rfl) pa_nil))))) (pw_or1 (pt_cmpR op_ne (pe_callB call_len_seq (by rfl) T.zlen PySem.boot_len (pa_cons (pv 0) pa_nil)) (pe_int) (nomark _)))))
        (pss_one (ps_ret (pe_bl)))
        pss_nil)
      (pss_one (ps_ret (pe_and (C8.pe_c (ok_is_in T) hr (by decide) rfl (pa_cons (pe_ix ix_tup (pv 0) (pe_int) (fun _ _ => rfl)) (pa_cons (pe_un un_neg (C8.pe_gc rfl T.cFAR)) (pa_cons (C8.pe_gc rfl T.cFAR) pa_nil)))) (pe_one (C8.pe_c (ok_is_in T) hr (by decide) rfl (pa_cons (pe_ix ix_tup (pv 0) (pe_int) (fun _ _ => rfl)) (pa_cons (pe_un un_neg (C8.pe_gc rfl T.cFAR)) (pa_cons (C8.pe_gc rfl T.cFAR) pa_nil)))))))), ?_⟩
    refine ⟨_, rfl, _, _, _, _, _, rfl, .ty _, .base (.tup ha), kit_ty kTT, true, rfl, ?_⟩
    refine ⟨_, rfl, _, _, rfl, .inr (SqT.of ha), ⟨rfl, false, rfl, ?_⟩⟩
    refine ⟨_, rfl, _, _, _, _, rfl, rfl, SqT.of ha, rfl, _, rfl, _, _, _, rfl, x1, x2, true, rfl, ?_⟩
    refine ⟨_, rfl, _, _, _, _, rfl, rfl, SqT.of ha, rfl, _, rfl, _, _, _, rfl, y1, y2, ?_⟩
    exact q
def spIsSquare : Sp := fun vs H Q _ => ∃ (a : Addr) (x y c n : Int), vs = [.ref a, .int n] ∧ H a = some (.tup [.int x, .int y, .int c]) ∧ (-Bg ≤ x ∧ x ≤ Bg) ∧ (-Bg ≤ y ∧ y ≤ Bg) ∧ (1 ≤ c ∧ c < n) ∧ ∀ H', Same H H' → Q (.bl true) H'
theorem ok_is_square (T : Txt K mg cW cE cN hA h0 h1 h2 h3) : C8.Cal P w K mg base 3 "is_square" spIsSquare [] := by
  refine cal_of T.d_is_square sc_is_square (fun vs H Q E h => ?_) (fun f cdv A outer s H vs Q E hr h => ?_)
  · obtain ⟨a, x, y, c, n, rfl, _⟩ := h
    rfl
  · obtain ⟨a, x, y, c, n, rfl, ha, hx, hy, ⟨c1, c2⟩, q⟩ := h
    have hu := hu_of hr
    refine ⟨_, pss_cons (ps_if (PW.pt (pw_or (pt_not (pt_val (pe_callB call_isi (by rfl) T.zisinstance (by decide +kernel) (pa_cons (pv 0) (pa_cons (pe_bltn (v := .ty "tuple") (by rfl) T.ztuple (by decide +kernel) rfl) pa_nil))))) (pw_or (pt_cmpR op_ne (pe_callB call_len_seq (by rfl) T.zlen PySem.boot_len (pa_cons (pv 0) pa_nil)) (pe_int) (nomark _)) (pw_or1 (pt_not (pt_val (C8.pe_c (ok_is_place T) hr (by decide) rfl (pa_cons (pe_slice sl_tupA (pv 0) po_none (po_some (pe_int))) pa_nil))))))))
        (pss_one (ps_ret (pe_bl)))
        pss_nil)
      (pss_one (ps_ret (C8.pe_c (ok_is_in T) hr (by decide) rfl (pa_cons (pe_ix ix_tup (pv 0) (pe_int) (fun _ _ => rfl)) (pa_cons (pe_int) (pa_cons (pe_op op_sub (pv 1) (pe_int)) pa_nil)))))), ?_⟩
    refine ⟨_, rfl, _, _, _, _, _, rfl, .ty _, .base (.tup ha), kit_ty kTT, true, rfl, ?_⟩
    refine ⟨_, rfl, _, _, rfl, .inr (SqT.of ha), ⟨rfl, false, rfl, ?_⟩⟩
    refine ⟨_, rfl, _, rfl, _, _, rfl, SqT.of ha, (fun z => by cases z.2), fun _ p hp => ?_⟩
    refine ⟨p, x, y, rfl, upd_same, hx, hy, true, rfl, ?_⟩
    refine ⟨_, rfl, _, _, _, _, rfl, rfl, SqT.of (upk hp ha), rfl, _, rfl, _, _, rfl, rfl, _, _, _, rfl, c1, (by show c ≤ n - 1; omega), ?_⟩
    exact q _ (Same.new hp)
/-- a floor as the program takes it -/
structure FloOk (F : List Sq) (n : Nat) (B : Int) : Prop where
  sorted : F.Pairwise sqLt
  few : F.length ≤ 4000
  ok : ∀ q ∈ F, (-B ≤ q.1 ∧ q.1 ≤ B) ∧ (-B ≤ q.2.1 ∧ q.2.1 ≤ B) ∧ (1 ≤ q.2.2 ∧ q.2.2 < (n : Int))
def spNeedFloor : Sp := fun vs H Q _ => ∃ (x : V) (F : List Sq) (n : Nat), vs = [x, .int n] ∧ Da H x (floD F) ∧ FloOk F n Bg ∧ ∀ H', Same H H' → Q .non H'
theorem ok_need_floor (T : Txt K mg cW cE cN hA h0 h1 h2 h3) : C8.Cal P w K mg base 4 "need_floor" spNeedFloor [] := by
  refine cal_of T.d_need_floor sc_need_floor (fun vs H Q E h => ?_) (fun f cdv A outer s H vs Q E hr h => ?_)
  · obtain ⟨x, F, n, rfl, _⟩ := h
    rfl
  · obtain ⟨x, F, n, rfl, hx, ok, q⟩ := h
    have hu := hu_of hr
    refine ⟨_, pss_cons (ps_if (PW.pt (pw_or (pt_not (pt_val (pe_callB call_isi (by rfl) T.zisinstance (by decide +kernel) (pa_cons (pv 0) (pa_cons (pe_bltn (v := .ty "tuple") (by rfl) T.ztuple (by decide +kernel) rfl) pa_nil))))) (pw_or1 (pt_cmpR op_gt (pe_callB call_len_seq (by rfl) T.zlen PySem.boot_len (pa_cons (pv 0) pa_nil)) (C8.pe_gc rfl T.cMOST_SQUARES) (nomark _)))))
        (pss_one (ps_never))
        pss_nil)
      (pss_one (ps_for PassesOwn.never rfl (pi_enumT rfl T.zenumerate (pa_cons (pv 0) pa_nil)) (pg_tup rfl (pgs_cons (pg_name (i := 2) sc_need_floor.nd rfl (Or.inl rfl)) (pgs_cons (pg_name (i := 3) sc_need_floor.nd rfl (Or.inl rfl)) pgs_nil)))
        (pss_one (ps_if (PW.pt (pw_or (pt_not (pt_val (C8.pe_c (ok_is_square T) hr (by decide) rfl (pa_cons (pv 3) (pa_cons (pv 1) pa_nil))))) (pw_or1 (PW.pt (pw_and (pt_cmpR op_gt (pv 2) (pe_int) (nomark _)) (pw_and1 (pt_cmpR (op_leT hr.units0) (pe_slice sl_tupA (pv 3) po_none (po_some (pe_int))) (pe_slice sl_tupA (pe_ix ix_tup (pv 0) (pe_op op_sub (pv 2) (pe_int)) (fun _ _ => rfl)) po_none (po_some (pe_int))) (nomark _))))))))
          (pss_one (ps_never))
          pss_nil)))), ?_⟩
    obtain ⟨a, xs, rfl, ha, hlen, hget, hget'⟩ := hx.map
    have few : ¬ ((4000 : Int) < (xs.length : Int)) := by have := ok.few; omega
    refine ⟨_, rfl, _, _, _, _, _, rfl, .ty _, .base (.tup ha), kit_ty kTT, true, rfl, ?_⟩
    refine ⟨_, rfl, _, _, rfl, .inr (SqT.of ha), _, _, rfl, rfl, _, rfl, ifF (decide_eq_false few) ?_⟩
    refine ⟨_, rfl, a, xs, rfl, SqT.of ha, for_it walk_enumT (fun i σ H' => ∃ v1 v2, σ = [some (.ref a), some (.int n), v1, v2] ∧ Same H H') ⟨_, _, rfl, Same.refl H⟩ (fun i σ H' _ ⟨_, _, _, s0⟩ => SqT.of (s0 _ _ ha)) ?_ ?_⟩
    · rintro i y σ H1 H2 hi ⟨v1, v2, rfl, s0⟩ ⟨p, u, z, rfl, hp, rfl, hu1, hz⟩
      cases Option.some.inj hu1
      obtain ⟨⟨x, y, c⟩, hq, hd⟩ := hget' i z hz
      obtain ⟨b, rfl, hb⟩ := hd.ints
      obtain ⟨bx, by', bc⟩ := ok.ok _ (List.mem_of_getElem? hq)
      have s1 : Same H (upd H1 p (.tup [.int (i : Nat), .ref b])) := s0.trans (Same.new hp)
      refine ⟨p, _, rfl, SqT.of upd_same, rfl, _, _, rfl, _, _, rfl, rfl, ?_⟩
      refine ⟨_, rfl, _, rfl, b, x, y, c, _, rfl, s1 _ _ hb, bx, by', bc, fun H3 s3 => ⟨true, rfl, ?_⟩⟩
      have s4 := s1.trans s3
      refine ⟨_, rfl, _, _, rfl, rfl, _, rfl, ?_⟩
      by_cases hi0 : (0 : Int) < (i : Int)
      · obtain ⟨j, rfl⟩ : ∃ j, i = j + 1 := ⟨i - 1, by omega⟩
        have jl : j < xs.length := by omega
        obtain ⟨⟨x', y', c'⟩, hq', hd'⟩ := hget' j xs[j] (List.getElem?_eq_getElem jl)
        obtain ⟨b', eb, hb'⟩ := hd'.ints
        have hxj : xs[j]? = some (.ref b') := by rw [← eb]; exact List.getElem?_eq_getElem jl
        have lt : sqLt (x', y', c') (x, y, c) := by
          obtain ⟨l1, e1⟩ := List.getElem?_eq_some_iff.mp hq'
          obtain ⟨l2, e2⟩ := List.getElem?_eq_some_iff.mp hq
          have := List.pairwise_iff_getElem.mp ok.sorted j (j + 1) l1 l2 (Nat.lt_succ_self j)
          rw [e1, e2] at this
          exact this
        refine ifT (decide_eq_true hi0) ?_
        refine ⟨_, rfl, _, rfl, _, _, rfl, SqT.of (s4 _ _ hb), (fun z => by cases z.2), fun _ p1 hp1 => ?_⟩
        have s5 := s4.trans (Same.new (u := .tup [.int x, .int y]) hp1)
        refine ⟨_, rfl, _, rfl, _, _, rfl, rfl, _, _, _, .ref b', rfl, rfl, SqT.of (s5 _ _ ha), (by show atI xs (((j + 1 : Nat) : Int) - 1) = some (.ref b'); rw [show ((j + 1 : Nat) : Int) - 1 = (j : Int) by omega]; exact atI_nat hxj), ?_⟩
        refine ⟨_, rfl, _, _, rfl, SqT.of (s5 _ _ hb'), (fun z => by cases z.2), fun _ p2 hp2 => ?_⟩
        have s6 := s5.trans (Same.new (u := .tup [.int x', .int y']) hp2)
        refine ⟨p1, p2, [x, y], [x', y'], rfl, rfl, SqT.of (upk hp2 upd_same), SqT.of upd_same, _, rfl, ?_⟩
        refine ifF ?_ ⟨_, _, rfl, s6⟩
        show Ob.lexAt (fun j => decide ([x, y].getD j 0 = [x', y'].getD j 0)) (fun j => decide ([x, y].getD j 0 ≤ [x', y'].getD j 0)) (decide (2 ≤ 2)) 0 2 = false
        rw [Ob.lexAt_succ, Ob.lexAt_succ, Ob.lexAt_zero]
        show (if decide (x = x') = true then (if decide (y = y') = true then decide (2 ≤ 2) else decide (y ≤ y')) else decide (x ≤ x')) = false
        unfold sqLt at lt
        simp only at lt
        by_cases e1 : x = x'
        · rw [if_pos (decide_eq_true e1), if_neg (by simp; omega)]
          exact decide_eq_false (by omega)
        · rw [if_neg (by simp; exact e1)]
          exact decide_eq_false (by omega)
      · refine ifF (decide_eq_false hi0) ?_
        exact ⟨_, _, rfl, s4⟩
    · rintro σ H' ⟨_, _, _, s0⟩
      exact q _ s0
end
end WayP
/-! squares_of .. need_stand -/
namespace WayP
open PySem PySem.Spec PyProof.Rows L2 WayR Way
section
variable {P : Program} {w : World} {K : PySem.W.Frag} {mg : Str → Option Value} {base : Heap} {cW cE cN hA h0 h1 h2 h3 : Addr}
theorem take_all {α : Type} {l : List α} {n : Nat} (h : l.length ≤ n) : l.take n = l := List.take_of_length_le h
theorem big1000 {n : Nat} (h : n ≤ 5000) : n < sizeLine := Nat.lt_of_le_of_lt h (by decide)
/-! ### squares_of -/
def spSquares : Sp := fun vs H Q _ => ∃ (x : V) (F : List Sq) (n : Nat) (B : Int), vs = [x] ∧ Da H x (floD F) ∧ FloOk F n B ∧ ∀ d H', Same H H' → H d = none → SqD H' d (sqF F) F.length → Q (.ref d) H'
theorem ok_squares_of (T : Txt K mg cW cE cN hA h0 h1 h2 h3) : C8.Cal P w K mg base 1 "squares_of" spSquares [] := by
  refine cal_of T.d_squares_of sc_squares_of (fun vs H Q E h => ?_) (fun f cdv A outer s H vs Q E hr h => ?_)
  · obtain ⟨x, F, n, B, rfl, _⟩ := h
    rfl
  · obtain ⟨x, F, n, B, rfl, hx, ok, q⟩ := h
    have hu := hu_of hr
    refine ⟨_, pss_one (ps_ret (pe_dcT (own := [("square", 1)]) (g := gName 1) (tt := tYes) rfl hr.units sc_squares_of.nd (pi_tup (pv 0)) (blkOk_by (own := [("square", 1)]) (N := nm_squares_of) (sc := defScope s_squares_of) (by decide +kernel)) (fun _ _ _ _ _ => pg_name (i := 1) sc_squares_of.nd rfl (Or.inl rfl)) (fun _ _ _ _ _ => pts_nil) (fun _ _ _ _ _ => (pe_slice (r := rSlA K) sl_tupA (pv 1) po_none (po_some (pe_int)))) (fun _ _ _ _ _ => (pe_ix (r := rIxT K) ix_tup (pv 1) (pe_int) (fun _ _ => rfl))))), ?_⟩
    obtain ⟨a, xs, rfl, ha, hlen, hget, hget'⟩ := hx.map
    have few := ok.few
    refine ⟨_, rfl, a, rfl, ⟨_, SqT.of ha⟩, fun D hD => ?_⟩
    refine dcT_it (walk_tup (xs := xs)) (fun i H' => Same H H' ∧ ∃ kvs, H' D = some (.dT kvs) ∧ SqK kvs (sqF (F.take i)) ∧ kvs.length ≤ i)
      ⟨Same.new hD, [], upd_same, SqK.nil, Nat.le_refl _⟩ (fun i H' _ h => SqT.of (h.1 _ _ ha)) ?_ ?_
    · rintro i z H1 H2 hi ⟨s0, kvs, hk, hq, hl⟩ ⟨rfl, hz⟩
      obtain ⟨⟨x, y, c⟩, hF, hd⟩ := hget' i z hz
      obtain ⟨b, rfl, hb⟩ := hd.ints
      refine ⟨rfl, ?_⟩
      refine ⟨_, rfl, _, rfl, _, _, rfl, SqT.of (s0 _ _ hb), (fun z => by cases z.2), fun _ p hp => ?_⟩
      refine ⟨_, rfl, _, _, _, _, rfl, rfl, SqT.of (upk hp (s0 _ _ hb)), rfl, ?_⟩
      refine ⟨kvs, kk (x, y), p, rfl, upd_same, upk hp hk, big1000 (by omega), ?_⟩
      refine ⟨Same.put (s0.trans (Same.new hp)) hD, _, upd_same, ?_, ?_⟩
      · rw [take_snoc hF, sqF_snoc]
        exact hq.put (x, y) c
      · exact Nat.le_trans (length_putK _ _ _) (Nat.succ_le_succ hl)
    · rintro H' ⟨s0, kvs, hk, hq, hl⟩
      rw [take_all (by omega)] at hq
      exact q D H' s0 hD ⟨kvs, hk, hq, by omega⟩

theorem FloOk.fl {F : List Sq} {n : Nat} {B : Int} (ok : FloOk F n B) : IsFloor F (sqF F) := sqF_floor ok.sorted fun q hq => by have := (ok.ok q hq).2.2.1; omega
/-! ### floor_of -/
/-- the keys of a dict of squares, as pairs -/
theorem SqK.keys {kvs : List (List Key × V)} {f : Int × Int → Int} (S : SqK kvs f) : ∃ ks : List (Int × Int), kvs.map (·.1) = ks.map kk ∧ ks.Nodup ∧ (∀ q, q ∈ ks ↔ ∃ v, valV kvs (kk q) = some v) := by
  have go : ∀ l : List (List Key), (∀ k ∈ l, ∃ q, k = kk q) → ∃ ks : List (Int × Int), l = ks.map kk := fun l => by
    induction l with
    | nil => exact fun _ => ⟨[], rfl⟩
    | cons k l ih =>
      intro h
      obtain ⟨q, e⟩ := h k List.mem_cons_self
      obtain ⟨ks, e2⟩ := ih fun k hk => h k (List.mem_cons_of_mem _ hk)
      exact ⟨q :: ks, by rw [e, e2]; rfl⟩
  obtain ⟨ks, e⟩ := go _ S.ks
  refine ⟨ks, e, ?_, fun q => ?_⟩
  · have := S.nd
    rw [e] at this
    exact List.Pairwise.of_map kk (fun a b h e => h (congrArg kk e)) this
  · constructor
    · intro h
      have hm : kk q ∈ kvs.map (·.1) := by rw [e]; exact List.mem_map.mpr ⟨q, h, rfl⟩
      cases hv : valV kvs (kk q) with
      | none => exact absurd hm (valV_not hv)
      | some v => exact ⟨v, rfl⟩
    · rintro ⟨v, hv⟩
      have := valV_in hv
      rw [e] at this
      obtain ⟨q', h1, h2⟩ := List.mem_map.mp this
      exact kk_inj h2 ▸ h1
/-- what sorted gives -/
theorem sorted_keys {ks : List (Int × Int)} {L : List (Addr × Int × Int)} (hp : (L.map (·.2)).Perm ks) (hs : L.Pairwise (fun a b => a.2.1 < b.2.1 ∨ (a.2.1 = b.2.1 ∧ a.2.2 ≤ b.2.2))) (hn : ks.Nodup) :
    (L.map (·.2)).Pairwise kLe ∧ (L.map (·.2)).Nodup ∧ ∀ q, q ∈ L.map (·.2) ↔ q ∈ ks :=
  ⟨List.Pairwise.map _ (fun _ _ h => h) hs, hp.nodup_iff.mpr hn, fun q => hp.mem_iff⟩
/-- a list of squares that is being made: at D, of the first i keys -/
def MkF (H0 : Hp) (D : Addr) (f : Int × Int → Int) (ks : List (Int × Int)) (i : Nat) (H : Hp) : Prop :=
  Same H0 H ∧ ∃ acc, H D = some (.lst acc) ∧ DaAll H acc ((floorL f (ks.take i)).map sqD)
theorem MkF.start {H0 : Hp} {D : Addr} {f : Int × Int → Int} {ks : List (Int × Int)} (hD : H0 D = none) : MkF H0 D f ks 0 (upd H0 D (.lst [])) := ⟨Same.new hD, [], upd_same, .nil⟩
theorem MkF.skip {H0 H : Hp} {D : Addr} {f : Int × Int → Int} {ks : List (Int × Int)} {i : Nat} {q : Int × Int} (M : MkF H0 D f ks i H) (hq : ks[i]? = some q) (h : f q = 0) : MkF H0 D f ks (i + 1) H := by
  obtain ⟨s0, acc, h1, h2⟩ := M
  refine ⟨s0, acc, h1, ?_⟩
  rw [take_snoc hq, floorL_snoc, if_pos h]
  exact h2
theorem MkF.step {H0 H H' : Hp} {D : Addr} {f : Int × Int → Int} {ks : List (Int × Int)} {i : Nat} {q : Int × Int} {p : Addr} (M : MkF H0 D f ks i H) (hD : H0 D = none) (hs : Same H H') (hq : ks[i]? = some q) (h : f q ≠ 0) (hi : i ≤ 5000)
    (hp : H' p = some (.tup [.int q.1, .int q.2, .int (f q)])) : ∃ acc, H' D = some (.lst acc) ∧ acc.length < sizeLine ∧ MkF H0 D f ks (i + 1) (upd H' D (.lst (acc ++ [.ref p]))) := by
  obtain ⟨s0, acc, h1, h2⟩ := M
  have hl : acc.length ≤ i := by
    rw [h2.length, List.length_map]
    exact Nat.le_trans (floorL_len _ _) (List.length_take_le _ _)
  have tk : TK H' (upd H' D (.lst (acc ++ [.ref p]))) := TK.at (hs _ _ h1) fun _ z => by cases z
  refine ⟨acc, hs _ _ h1, big1000 (by omega), Same.put (s0.trans hs) hD, _, upd_same, ?_⟩
  rw [take_snoc hq, floorL_snoc, if_neg h, List.map_append]
  refine DaAll.snoc ?_ ((h2.tk (TK.of hs)).tk tk)
  exact Da.of_ints (ns := [q.1, q.2, f q]) (tk _ _ hp)
def spFloorOf : Sp := fun vs H Q _ => ∃ (d : Addr) (f : Int × Int → Int) (n : Nat), vs = [.ref d] ∧ SqD H d f n ∧ n ≤ 5000 ∧ ∀ v F H', Same H H' → Da H' v (floD F) → IsFloor F f → F.length ≤ n → Q v H'
theorem ok_floor_of (T : Txt K mg cW cE cN hA h0 h1 h2 h3) : C8.Cal P w K mg base 1 "floor_of" spFloorOf [] := by
  refine cal_of T.d_floor_of sc_floor_of (fun vs H Q E h => ?_) (fun f cdv A outer s H vs Q E hr h => ?_)
  · obtain ⟨d, f, n, rfl, _⟩ := h
    rfl
  · obtain ⟨d, f, n, rfl, ⟨kvs, hd, hk, hl⟩, hn, q⟩ := h
    have hu := hu_of hr
    refine ⟨_, pss_one (ps_ret (pe_callTy call_tuple_of (by rfl) T.ztuple (by decide +kernel) (pa_cons (pe_lc (own := [("place", 1)]) (g := gName 1) rfl sc_floor_of.nd (pi_list (pe_callB (cr_sortedKeysT rfl) (by rfl) T.zsorted (by decide +kernel) (pa_cons (pe_bm0 PySem.F.plainAttrs_dict PySem.F.slot_dict_keys PySem.F.type_dict_keys mt_keysT (pv 0)) pa_nil))) (blkOk_by (own := [("place", 1)]) (N := nm_floor_of) (sc := defScope s_floor_of) (by decide +kernel)) (fun _ _ _ _ _ => pg_name (i := 1) sc_floor_of.nd rfl (Or.inl rfl)) (fun _ _ _ _ _ => pts_one (pt_cmpR op_ne (pe_dget hu (pv 0) (pv 1) (fun _ _ => rfl)) (pe_int) (nomark _))) (fun _ _ _ _ _ => (pe_op (r := rCatA K) op_catA (pv 1) (pe_tup (pa_cons (pe_dget hu (pv 0) (pv 1) (fun _ _ => rfl)) pa_nil))))) pa_nil))), ?_⟩
    obtain ⟨ks, e, nd, mem⟩ := hk.keys
    refine ⟨_, rfl, .inr (.inr (.inl ⟨rfl, .inr ⟨kvs, hd⟩⟩)), d, kvs, rfl, rfl, hd, fun p hp => ?_⟩
    refine ⟨p, d, kvs, ks, rfl, upd_same, upk hp hd, e, fun l L hp1 hp2 hp3 hl0 => ?_⟩
    obtain ⟨g1, g2, g3⟩ := sorted_keys hp1 hp2 nd
    have hLl : L.length ≤ 5000 := by
      have a1 : L.length = ks.length := by rw [← hp1.length_eq, List.length_map]
      have a2 : ks.length = kvs.length := by rw [← List.length_map (f := kk), ← e, List.length_map]
      omega
    have sA : Same H (upd (upd H p (keysO p d)) l (.lst (L.map fun q => V.ref q.1))) := (Same.new hp).trans (Same.new hl0)
    generalize hH1 : upd (upd H p (keysO p d)) l (.lst (L.map fun q => V.ref q.1)) = H1 at sA
    have hL1 : H1 l = some (.lst (L.map fun q => V.ref q.1)) := by rw [← hH1]; exact upd_same
    have hP3 : ∀ q ∈ L, H1 q.1 = some (.tup [.int q.2.1, .int q.2.2]) := fun q hq => by rw [← hH1]; exact upk hl0 (hp3 q hq)
    refine ⟨l, rfl, ⟨_, SqL.of hL1⟩, fun D hD => ?_⟩
    refine lc_list (xs := L.map fun q => V.ref q.1) (fun i H' => MkF H1 D f (L.map (·.2)) i H') (MkF.start hD) (fun i H' _ M => SqL.of (M.1 _ _ hL1)) ?_ ?_
    · rintro i y H' hi M
      rw [List.getElem?_map] at hi
      cases hLi : L[i]? with
      | none => rw [hLi] at hi; cases hi
      | some z =>
        rw [hLi] at hi
        cases Option.some.inj hi
        obtain ⟨b, x, y⟩ := z
        have hmem : ((b, x, y) : Addr × Int × Int) ∈ L := List.mem_of_getElem? hLi
        have hb : H' b = some (.tup [.int x, .int y]) := M.1 _ _ (hP3 _ hmem)
        have hd' : H' d = some (.dT kvs) := M.1 _ _ (sA _ _ hd)
        have hks : (L.map (·.2))[i]? = some (x, y) := by rw [List.getElem?_map, hLi]; rfl
        obtain ⟨v, hv⟩ := (mem (x, y)).mp ((g3 _).mp (List.mem_of_getElem? hks))
        have hv2 : valV kvs (kk (x, y)) = some (.int (f (x, y))) := by
          rcases hk.vl (x, y) with ⟨z, _⟩ | z
          · rw [hv] at z; cases z
          · exact z
        refine ⟨rfl, ?_⟩
        refine ⟨_, rfl, _, rfl, _, _, rfl, .inr ⟨kvs, kk (x, y), b, .inl hd', rfl, hb, hv2.symm⟩, rfl, ⟨_, rfl, ?_⟩⟩
        by_cases h : f (x, y) = 0
        · refine ifF (by rw [h]; rfl) ?_
          exact M.skip hks h
        · refine ifT (by simp [h]) ?_
          refine ⟨_, rfl, _, rfl, _, rfl, _, _, rfl, .inr ⟨kvs, kk (x, y), b, .inl hd', rfl, hb, hv2.symm⟩, (by show 1 ≤ sizeLine; decide), fun p1 hq1 => ?_⟩
          refine ⟨b, p1, _, _, rfl, rfl, SqT.of (upk hq1 hb), SqT.of upd_same, (by show 3 ≤ sizeLine; decide), (fun z => by cases z), (fun _ z => by cases z), fun _ _ p2 hq2 => ?_⟩
          exact M.step hD ((Same.new hq1).trans (Same.new hq2)) hks h (by have := (List.getElem?_eq_some_iff.mp hLi).1; omega) upd_same
    · rintro H' ⟨s0, acc, h1', h2'⟩
      rw [take_all (by simp)] at h2'
      refine ⟨D, acc, rfl, .inl ⟨SqL.of h1', fun z hz => ?_⟩⟩
      refine q (.ref z) _ _ ((sA.trans s0).trans (Same.new hz)) (.tup upd_same (h2'.tk (TK.new hz))) (floorL_is g1 g2 fun q hq => (g3 q).mpr ((mem q).mpr ?_)) ?_
      · rcases hk.vl q with ⟨_, z⟩ | z
        · exact absurd z hq
        · exact ⟨_, z⟩
      · refine Nat.le_trans (floorL_len _ _) ?_
        have a1 : L.length = ks.length := by rw [← hp1.length_eq, List.length_map]
        have a2 : ks.length = kvs.length := by rw [← List.length_map (f := kk), ← e, List.length_map]
        rw [List.length_map]
        omega

/-! ### is_walker, need_stand -/
/-- a walker as the program takes it -/
structure WkOk (x y h s : Int) (t : Tab) (B : Int) : Prop where
  x_ : -B ≤ x ∧ x ≤ B
  y_ : -B ≤ y ∧ y ≤ B
  h_ : 0 ≤ h ∧ h ≤ 3
  s_ : 0 ≤ s ∧ s < (t.length : Int)
def spIsWalker : Sp := fun vs H Q _ => ∃ (v u : V) (t : Tab) (x y h s : Int), vs = [v, u] ∧ Da H v (tabD t) ∧ Da H u (wkD x y h s) ∧ WkOk x y h s t Bg ∧ ∀ H', Same H H' → Q (.bl true) H'
theorem ok_is_walker (T : Txt K mg cW cE cN hA h0 h1 h2 h3) : C8.Cal P w K mg base 3 "is_walker" spIsWalker [] := by
  refine cal_of T.d_is_walker sc_is_walker (fun vs H Q E h => ?_) (fun f cdv A outer s H vs Q E hr h => ?_)
  · obtain ⟨v, u, t, x, y, h, s, rfl, _⟩ := h
    rfl
  · obtain ⟨v, u, t, x, y, h, s, rfl, hv, hu', ok, q⟩ := h
    have hu := hu_of hr
    refine ⟨_, pss_cons (ps_if (PW.pt (pw_or (pt_not (pt_val (pe_callB call_isi (by rfl) T.zisinstance (by decide +kernel) (pa_cons (pv 1) (pa_cons (pe_bltn (v := .ty "tuple") (by rfl) T.ztuple (by decide +kernel) rfl) pa_nil))))) (pw_or (pt_cmpR op_ne (pe_callB call_len_seq (by rfl) T.zlen PySem.boot_len (pa_cons (pv 1) pa_nil)) (pe_int) (nomark _)) (pw_or1 (pt_not (pt_val (C8.pe_c (ok_is_place T) hr (by decide) rfl (pa_cons (pe_slice sl_tupA (pv 1) po_none (po_some (pe_int))) pa_nil))))))))
        (pss_one (ps_ret (pe_bl)))
        pss_nil)
      (pss_one (ps_ret (pe_and (C8.pe_c (ok_is_in T) hr (by decide) rfl (pa_cons (pe_ix ix_tup (pv 1) (pe_int) (fun _ _ => rfl)) (pa_cons (pe_int) (pa_cons (pe_int) pa_nil)))) (pe_one (C8.pe_c (ok_is_in T) hr (by decide) rfl (pa_cons (pe_ix ix_tup (pv 1) (pe_int) (fun _ _ => rfl)) (pa_cons (pe_int) (pa_cons (pe_op op_sub (pe_callB call_len_seq (by rfl) T.zlen PySem.boot_len (pa_cons (pv 0) pa_nil)) (pe_int)) pa_nil)))))))), ?_⟩
    obtain ⟨a, xs, rfl, ha, hlen, hget, hget'⟩ := hv.map
    obtain ⟨b, rfl, hb⟩ := hu'.ints
    have s2 := ok.s_.2
    refine ⟨_, rfl, _, _, _, _, _, rfl, .ty _, .base (.tup hb), kit_ty kTT, true, rfl, ?_⟩
    refine ⟨_, rfl, _, _, rfl, .inr (SqT.of hb), ⟨rfl, false, rfl, ?_⟩⟩
    refine ⟨_, rfl, _, rfl, _, _, rfl, SqT.of hb, (fun z => by cases z.2), fun _ p hp => ?_⟩
    refine ⟨p, x, y, rfl, upd_same, ok.x_, ok.y_, true, rfl, ?_⟩
    refine ⟨_, rfl, _, _, _, _, rfl, rfl, SqT.of (upk hp hb), rfl, _, _, _, rfl, ok.h_.1, ok.h_.2, true, rfl, ?_⟩
    refine ⟨_, rfl, _, _, _, _, rfl, rfl, SqT.of (upk hp hb), rfl, _, rfl, _, _, rfl, .inr (SqT.of (upk hp ha)), _, _, rfl, rfl, _, _, _, rfl, ok.s_.1, (by show s ≤ (xs.length : Int) - 1; omega), ?_⟩
    exact q _ (Same.new hp)
def spNeedStand : Sp := fun vs H Q _ => ∃ (v g u : V) (t : Tab) (n : Nat) (F : List Sq) (x y h s : Int), vs = [v, g, u] ∧ Da H v (tabD t) ∧ TabOk t n ∧ Da H g (floD F) ∧ FloOk F n Bg ∧ Da H u (wkD x y h s) ∧ WkOk x y h s t Bg ∧ ∀ H', Same H H' → Q .non H'
theorem ok_need_stand (T : Txt K mg cW cE cN hA h0 h1 h2 h3) : C8.Cal P w K mg base 5 "need_stand" spNeedStand [] := by
  refine cal_of T.d_need_stand sc_need_stand (fun vs H Q E h => ?_) (fun f cdv A outer s H vs Q E hr h => ?_)
  · obtain ⟨v, g, u, t, n, F, x, y, h, s, rfl, _⟩ := h
    rfl
  · obtain ⟨v, g, u, t, n, F, x, y, h, s, rfl, hv, okt, hg, okf, hu', okw, q⟩ := h
    have hu := hu_of hr
    refine ⟨_, pss_cons (ps_expr (C8.pe_c (ok_need_table T) hr (by decide) rfl (pa_cons (pv 0) pa_nil)))
      (pss_cons (ps_expr (C8.pe_c (ok_need_floor T) hr (by decide) rfl (pa_cons (pv 1) (pa_cons (pe_callB call_len_seq (by rfl) T.zlen PySem.boot_len (pa_cons (pe_ix ix_tup (pv 0) (pe_int) (fun _ _ => rfl)) pa_nil)) pa_nil))))
      (pss_one (ps_if (pt_not (pt_val (C8.pe_c (ok_is_walker T) hr (by decide) rfl (pa_cons (pv 0) (pa_cons (pv 2) pa_nil)))))
        (pss_one (ps_never))
        pss_nil))), ?_⟩
    refine ⟨_, rfl, v, t, n, rfl, hv, okt, fun H1 s1 => ?_⟩
    obtain ⟨a, xs, rfl, ha, hlen, hget, hget'⟩ := (hv.tk (TK.of s1)).map
    obtain ⟨r0, hr0⟩ : ∃ r0, t[0]? = some r0 := ⟨t[0]'(by have := okt.s1; omega), List.getElem?_eq_getElem _⟩
    obtain ⟨x0, hx0, hd0⟩ := hget 0 r0 hr0
    obtain ⟨b0, ys0, rfl, hb0, hl0, _⟩ := hd0.map
    have l0 : ys0.length = n := hl0.trans (okt.rows r0 (List.mem_of_getElem? hr0))
    refine ⟨_, rfl, _, rfl, _, _, _, _, rfl, rfl, SqT.of ha, atI_nat hx0, _, _, rfl, .inr (SqT.of hb0), ?_⟩
    refine ⟨g, F, n, (by rw [l0]; rfl), hg.tk (TK.of s1), okf, fun H2 s2 => ?_⟩
    refine ⟨_, rfl, _, rfl, .ref a, u, t, x, y, h, s, rfl, hv.tk (TK.of (s1.trans s2)), hu'.tk (TK.of (s1.trans s2)), okw, fun H3 s3 => ⟨true, rfl, ?_⟩⟩
    exact q _ ((s1.trans s2).trans s3)
end
end WayP
/-! the class Walk -/
namespace WayP
open PySem PySem.Spec PyProof.Rows L2 WayR Way
section
variable {P : Program} {w : World} {K : PySem.W.Frag} {mg : Str → Option Value} {base : Heap} {cW cE cN hA h0 h1 h2 h3 : Addr}
/-! ### its attributes -/
theorem pfN {f : Str} {v : V} : putF f v [] = [(f, v)] := rfl
theorem pfE {f : Str} {v u : V} {l : List (Str × V)} : putF f v ((f, u) :: l) = (f, v) :: l := if_pos rfl
theorem pfS {f g : Str} {v u : V} {l : List (Str × V)} (h : ¬ g = f) : putF f v ((g, u) :: l) = (g, u) :: putF f v l := if_neg h
theorem lkE {f : Str} {v : V} {l : List (Str × V)} : List.lookup f ((f, v) :: l) = some v := by simp [List.lookup]
theorem lkS {f g : Str} {v : V} {l : List (Str × V)} (h : ¬ g = f) : List.lookup g ((f, v) :: l) = List.lookup g l := by
  rw [List.lookup_cons, beq_eq_false_iff_ne.mpr h]
abbrev wf (tv : V) (d : Addr) (pv : V) (h s n : Int) : List (Str × V) := [("table", tv), ("squares", .ref d), ("place", pv), ("heading", .int h), ("state", .int s), ("done", .int n)]
section
variable {tv pv u : V} {d : Addr} {h s n k : Int}
theorem wf_table : (wf tv d pv h s n).lookup ("table" : Str) = some tv := lkE
theorem wf_squares : (wf tv d pv h s n).lookup ("squares" : Str) = some (.ref d) := by
  rw [lkS (by decide +kernel)]; exact lkE
theorem wf_place : (wf tv d pv h s n).lookup ("place" : Str) = some pv := by
  rw [lkS (by decide +kernel), lkS (by decide +kernel)]; exact lkE
theorem wf_heading : (wf tv d pv h s n).lookup ("heading" : Str) = some (.int h) := by
  rw [lkS (by decide +kernel), lkS (by decide +kernel), lkS (by decide +kernel)]; exact lkE
theorem wf_state : (wf tv d pv h s n).lookup ("state" : Str) = some (.int s) := by
  rw [lkS (by decide +kernel), lkS (by decide +kernel), lkS (by decide +kernel), lkS (by decide +kernel)]; exact lkE
theorem wf_done : (wf tv d pv h s n).lookup ("done" : Str) = some (.int n) := by
  rw [lkS (by decide +kernel), lkS (by decide +kernel), lkS (by decide +kernel), lkS (by decide +kernel), lkS (by decide +kernel)]; exact lkE
theorem wf_none {m : Str} (h1 : ¬ m = "table") (h2 : ¬ m = "squares") (h3 : ¬ m = "place") (h4 : ¬ m = "heading") (h5 : ¬ m = "state") (h6 : ¬ m = "done") : (wf tv d pv h s n).lookup m = none := by
  rw [lkS h1, lkS h2, lkS h3, lkS h4, lkS h5, lkS h6]; rfl
theorem wf_colour : (wf tv d pv h s n).lookup ("colour" : Str) = none := wf_none (by decide +kernel) (by decide +kernel) (by decide +kernel) (by decide +kernel) (by decide +kernel) (by decide +kernel)
theorem wf_entry : (wf tv d pv h s n).lookup ("entry" : Str) = none := wf_none (by decide +kernel) (by decide +kernel) (by decide +kernel) (by decide +kernel) (by decide +kernel) (by decide +kernel)
theorem wf_walker : (wf tv d pv h s n).lookup ("walker" : Str) = none := wf_none (by decide +kernel) (by decide +kernel) (by decide +kernel) (by decide +kernel) (by decide +kernel) (by decide +kernel)
theorem wf_step : (wf tv d pv h s n).lookup ("step" : Str) = none := wf_none (by decide +kernel) (by decide +kernel) (by decide +kernel) (by decide +kernel) (by decide +kernel) (by decide +kernel)
theorem wf_go : (wf tv d pv h s n).lookup ("go" : Str) = none := wf_none (by decide +kernel) (by decide +kernel) (by decide +kernel) (by decide +kernel) (by decide +kernel) (by decide +kernel)
theorem wf_stand : (wf tv d pv h s n).lookup ("stand" : Str) = none := wf_none (by decide +kernel) (by decide +kernel) (by decide +kernel) (by decide +kernel) (by decide +kernel) (by decide +kernel)
theorem wp_place : putF "place" u (wf tv d pv h s n) = wf tv d u h s n := by
  rw [pfS (by decide +kernel), pfS (by decide +kernel), pfE]
theorem wp_heading : putF "heading" (.int k) (wf tv d pv h s n) = wf tv d pv k s n := by
  rw [pfS (by decide +kernel), pfS (by decide +kernel), pfS (by decide +kernel), pfE]
theorem wp_state : putF "state" (.int k) (wf tv d pv h s n) = wf tv d pv h k n := by
  rw [pfS (by decide +kernel), pfS (by decide +kernel), pfS (by decide +kernel), pfS (by decide +kernel), pfE]
theorem wp_done : putF "done" (.int k) (wf tv d pv h s n) = wf tv d pv h s k := by
  rw [pfS (by decide +kernel), pfS (by decide +kernel), pfS (by decide +kernel), pfS (by decide +kernel), pfS (by decide +kernel), pfE]
theorem wp_new : putF "done" (.int n) (putF "state" (.int s) (putF "heading" (.int h) (putF "place" pv (putF "squares" (.ref d) (putF "table" tv []))))) = wf tv d pv h s n := by
  repeat (first | rw [pfN] | rw [pfS (by decide +kernel)])
end
/-- the instance x stands at the walk w, k steps done -/
structure WSt (C : Addr) (H : Hp) (x d : Addr) (t : Tab) (w : Wk) (k : Int) (m : Nat) : Prop where
  ex : ∃ dx tv pv, H x = some (.ins C dx (wf tv d pv w.h w.s k)) ∧ Da H tv (tabD t) ∧ Da H pv (iD [w.x, w.y]) ∧ SqD H d w.f m

/-! ### colour, entry, walker -/
def spColour (C : Addr) : Sp := fun vs H Q _ => ∃ (x d : Addr) (t : Tab) (w : Wk) (k : Int) (m : Nat), vs = [.ref x] ∧ WSt C H x d t w k m ∧ Q (.int (w.f (w.x, w.y))) H
theorem ok_Walk_colour (T : Txt K mg cW cE cN hA h0 h1 h2 h3) : C8.Met P w K mg base 1 cW "colour" (spColour cW) [] := by
  refine met_of T.kW T.d_Walk_colour sc_Walk_colour (fun vs H Q E h => ?_) (fun f cdv A outer s H vs Q E hr h => ?_)
  · obtain ⟨x, d, t, w, k, m, rfl, _⟩ := h
    rfl
  · obtain ⟨x, d, t, w, k, m, rfl, ⟨dx, tv, pp, hx, ht, hp, kvs, hd, hk, hl⟩, q⟩ := h
    have hu := hu_of hr
    refine ⟨_, pss_one (ps_ret (pe_dget2 hu (pe_fld (pv 0) rfl) (pe_fld (pv 0) rfl) (pe_int) ⟨rfl, rfl, rfl, rfl⟩)), ?_⟩
    obtain ⟨b, rfl, hb⟩ := hp.ints
    refine ⟨_, rfl, x, cW, dx, _, _, rfl, hx, T.kW, T.nF _ (by decide), wf_squares, d, rfl, .inr ⟨kvs, .inl hd⟩, _, rfl, x, cW, dx, _, _, rfl, hx, T.kW, T.nF _ (by decide), wf_place, _, .inr ⟨kvs, kk (w.x, w.y), b, .inl hd, rfl, hb, rfl⟩, ?_⟩
    rw [hk.getD]
    exact q
def spEntry (C : Addr) : Sp := fun vs H Q _ => ∃ (x d : Addr) (t : Tab) (w : Wk) (k : Int) (m n : Nat) (B : Int), vs = [.ref x] ∧ WSt C H x d t w k m ∧ TabOk t n ∧ Ok t n B w ∧ ∀ v, Da H v (entD (entAt t w.s (w.f (w.x, w.y)))) → Q v H
/-- an entry of a table is read -/
theorem tab_read {H : Hp} {v : V} {t : Tab} {n : Nat} {B : Int} {w : Wk} (hv : Da H v (tabD t)) (T : TabOk t n) (W : Ok t n B w) (q : Int × Int) :
    ∃ (a b : Addr) (xs ys : List V) (u : V), v = .ref a ∧ H a = some (.tup xs) ∧ atI xs w.s = some (.ref b) ∧ H b = some (.tup ys) ∧ atI ys (w.f q) = some u ∧ Da H u (entD (entAt t w.s (w.f q))) := by
  obtain ⟨i, j, r, o, e1, e2, e3, e4, e5⟩ := read_ent T W q
  obtain ⟨a, xs, rfl, ha, _, hget, _⟩ := hv.map
  obtain ⟨x, hx, hd⟩ := hget i r e3
  obtain ⟨b, ys, rfl, hb, _, hget2, _⟩ := hd.map
  obtain ⟨u, hu, hd2⟩ := hget2 j o e4
  exact ⟨a, b, xs, ys, u, rfl, ha, by rw [e1]; exact atI_nat hx, hb, by rw [e2]; exact atI_nat hu, by rw [e5]; exact hd2⟩
theorem ok_Walk_entry (T : Txt K mg cW cE cN hA h0 h1 h2 h3) : C8.Met P w K mg base 2 cW "entry" (spEntry cW) [] := by
  refine met_of T.kW T.d_Walk_entry sc_Walk_entry (fun vs H Q E h => ?_) (fun f cdv A outer s H vs Q E hr h => ?_)
  · obtain ⟨x, d, t, w, k, m, n, B, rfl, _⟩ := h
    rfl
  · obtain ⟨x, d, t, w, k, m, n, B, rfl, W, okt, okw, q⟩ := h
    have hu := hu_of hr
    refine ⟨_, pss_one (ps_ret (pe_ix ix_tup (pe_ix ix_tup (pe_fld (pv 0) rfl) (pe_fld (pv 0) rfl) (fun _ _ => rfl)) (C8.pe_mt0 (ok_Walk_colour T) hr (by decide) (pv 0)) (fun _ _ => rfl))), ?_⟩
    obtain ⟨dx, tv, pp, hx, ht, hp, hd⟩ := id W
    obtain ⟨a, b, xs, ys, u, rfl, ha, hs, hb, hc, hu'⟩ := tab_read ht okt okw (w.x, w.y)
    refine ⟨_, rfl, x, cW, dx, _, _, rfl, hx, T.kW, T.nF _ (by decide), wf_table, _, rfl, x, cW, dx, _, _, rfl, hx, T.kW, T.nF _ (by decide), wf_state, _, _, _, _, rfl, rfl, SqT.of ha, hs, ?_⟩
    refine ⟨_, rfl, x, dx, _, rfl, hx, wf_colour, x, d, t, w, k, m, rfl, W, _, _, _, _, rfl, rfl, SqT.of hb, hc, ?_⟩
    exact q u hu'
def spWalker (C : Addr) : Sp := fun vs H Q _ => ∃ (x d : Addr) (t : Tab) (w : Wk) (k : Int) (m : Nat), vs = [.ref x] ∧ WSt C H x d t w k m ∧ ∀ v H', Same H H' → Da H' v (wkD w.x w.y w.h w.s) → Q v H'
theorem ok_Walk_walker (T : Txt K mg cW cE cN hA h0 h1 h2 h3) : C8.Met P w K mg base 1 cW "walker" (spWalker cW) [] := by
  refine met_of T.kW T.d_Walk_walker sc_Walk_walker (fun vs H Q E h => ?_) (fun f cdv A outer s H vs Q E hr h => ?_)
  · obtain ⟨x, d, t, w, k, m, rfl, _⟩ := h
    rfl
  · obtain ⟨x, d, t, w, k, m, rfl, ⟨dx, tv, pp, hx, ht, hp, hd⟩, q⟩ := h
    have hu := hu_of hr
    refine ⟨_, pss_one (ps_ret (pe_op op_catA (pe_fld (pv 0) rfl) (pe_tup (pa_cons (pe_fld (pv 0) rfl) (pa_cons (pe_fld (pv 0) rfl) pa_nil))))), ?_⟩
    obtain ⟨b, rfl, hb⟩ := hp.ints
    refine ⟨_, rfl, x, cW, dx, _, _, rfl, hx, T.kW, T.nF _ (by decide), wf_place, _, rfl, x, cW, dx, _, _, rfl, hx, T.kW, T.nF _ (by decide), wf_heading, _, rfl, x, cW, dx, _, _, rfl, hx, T.kW, T.nF _ (by decide), wf_state, (by show 2 ≤ sizeLine; decide), fun p hq => ?_⟩
    refine ⟨b, p, _, _, rfl, rfl, SqT.of (upk hq hb), SqT.of upd_same, (by show 4 ≤ sizeLine; decide), (fun z => by cases z), (fun _ z => by cases z), fun _ _ p2 hq2 => ?_⟩
    exact q (.ref p2) _ ((Same.new hq).trans (Same.new hq2)) (Da.of_ints (ns := [w.x, w.y, w.h, w.s]) upd_same)
end
end WayP
/-! the class Walk: __init__, step, go, stand; walk -/
namespace WayP
open PySem PySem.Spec PyProof.Rows L2 WayR Way
section
variable {P : Program} {w : World} {K : PySem.W.Frag} {mg : Str → Option Value} {base : Heap} {cW cE cN hA h0 h1 h2 h3 : Addr}
theorem pl {f : Str} {v : V} {k : Nat} : ∀ {fs : List (Str × V)}, fs.length ≤ k → (putF f v fs).length ≤ k + 1
  | [], _ => by show 1 ≤ k + 1; omega
  | (g, u) :: fs, h => by
    by_cases e : g = f
    · rw [e, pfE]
      exact Nat.le_succ_of_le h
    · rw [pfS e]
      have h2 : fs.length + 1 ≤ k := h
      have := pl (f := f) (v := v) (k := k - 1) (fs := fs) (by omega)
      show (putF f v fs).length + 1 ≤ k + 1
      omega
theorem lt1000 {n k : Nat} (h : n ≤ k) (hk : k < 1000) : n < 1000 := Nat.lt_of_le_of_lt h hk
/-! ### __init__ -/
def spInit (C : Addr) : Sp := fun vs H Q _ => ∃ (x dx : Addr) (tv gv uv : V) (t : Tab) (F : List Sq) (n : Nat) (B : Int) (px py h s : Int), vs = [.ref x, tv, gv, uv] ∧ H x = some (.ins C dx []) ∧ Da H tv (tabD t) ∧ Da H gv (floD F) ∧ FloOk F n B ∧ Da H uv (wkD px py h s) ∧
  ∀ d H', Kp x H H' → H d = none → WSt C H' x d t ⟨sqF F, px, py, h, s⟩ 0 F.length → Q .non H'
theorem ok_Walkx_initx (T : Txt K mg cW cE cN hA h0 h1 h2 h3) : C8.Mak P w K mg base 2 "Walk" cW (spInit cW) [] := by
  refine mak_of T.d_Walkx_initx sc_Walkx_initx (fun vs H Q E h => ?_) (fun f cdv A outer s H vs Q E hr h => ?_)
  · obtain ⟨x, dx, tv, gv, uv, t, F, n, B, px, py, h, s, rfl, _⟩ := h
    rfl
  · obtain ⟨x, dx, tv, gv, uv, t, F, n, B, px, py, h, s, rfl, hx, ht, hg, okf, hv, q⟩ := h
    have hu := hu_of hr
    refine ⟨_, pss_cons (ps_fld (pv 0) (pv 1) rfl)
      (pss_cons (ps_fld (pv 0) (C8.pe_c (ok_squares_of T) hr (by decide) rfl (pa_cons (pv 2) pa_nil)) rfl)
      (pss_cons (ps_fld (pv 0) (pe_slice sl_tupA (pv 3) po_none (po_some (pe_int))) rfl)
      (pss_cons (ps_fld (pv 0) (pe_ix ix_tup (pv 3) (pe_int) (fun _ _ => rfl)) rfl)
      (pss_cons (ps_fld (pv 0) (pe_ix ix_tup (pv 3) (pe_int) (fun _ _ => rfl)) rfl)
      (pss_one (ps_fld (pv 0) (pe_int) rfl)))))), ?_⟩
    obtain ⟨b, rfl, hb⟩ := hv.ints
    have nt : ∀ (fs : List (Str × V)) (zs : List V), HO.ins cW dx fs ≠ .tup zs := fun _ _ z => by cases z
    refine ⟨_, rfl, _, rfl, x, cW, dx, _, rfl, hx, T.kW, T.nF _ (by decide), (by decide), ?_⟩
    have t1 : TK H (upd H x (.ins cW dx (putF "table" tv []))) := TK.at hx (nt _)
    have k1 : Kp x H (upd H x (.ins cW dx (putF "table" tv []))) := Kp.own Kp.refl
    generalize e1 : upd H x (.ins cW dx (putF "table" tv [])) = H1 at t1 k1
    have hx1 : H1 x = some (.ins cW dx (putF "table" tv [])) := by rw [← e1]; exact upd_same
    refine ⟨_, rfl, gv, F, n, B, rfl, hg.tk t1, okf, fun d H2 s2 hd1 sq => ?_⟩
    have hx2 := s2 _ _ hx1
    have nxd : x ≠ d := fun e => by rw [e, hd1] at hx1; cases hx1
    refine ⟨_, rfl, x, cW, dx, _, rfl, hx2, T.kW, T.nF _ (by decide), (lt1000 (pl (Nat.le_refl 0)) (by decide)), ?_⟩
    have t3 : TK H (upd H2 x (.ins cW dx (putF "squares" (.ref d) (putF "table" tv [])))) := (t1.trans (TK.of s2)).trans (TK.at hx2 (nt _))
    have k3 : Kp x H (upd H2 x (.ins cW dx (putF "squares" (.ref d) (putF "table" tv [])))) := Kp.own (k1.trans (Kp.of s2))
    have q3 : SqD (upd H2 x (.ins cW dx (putF "squares" (.ref d) (putF "table" tv [])))) d (sqF F) F.length := by
      obtain ⟨kvs, z1, z2, z3⟩ := sq
      exact ⟨kvs, by rw [upd_ne nxd.symm]; exact z1, z2, z3⟩
    generalize e3 : upd H2 x (.ins cW dx (putF "squares" (.ref d) (putF "table" tv []))) = H3 at t3 k3 q3
    have hx3 : H3 x = some (.ins cW dx (putF "squares" (.ref d) (putF "table" tv []))) := by rw [← e3]; exact upd_same
    refine ⟨_, rfl, _, rfl, b, _, rfl, SqT.of (t3 _ _ hb), (fun z => by cases z.2), fun _ p hp => ?_⟩
    refine ⟨_, rfl, x, cW, dx, _, rfl, upk hp hx3, T.kW, T.nF _ (by decide), (lt1000 (pl (pl (Nat.le_refl 0))) (by decide)), ?_⟩
    refine ⟨_, rfl, b, _, _, _, rfl, rfl, SqT.of (by rw [upd_ne (ne_of (t3 _ _ hb) hx3 (fun z => by cases z))]; exact upk hp (t3 _ _ hb)), rfl, ?_⟩
    refine ⟨_, rfl, x, cW, dx, _, rfl, upd_same, T.kW, T.nF _ (by decide), (lt1000 (pl (pl (pl (Nat.le_refl 0)))) (by decide)), ?_⟩
    rw [upd_upd]
    refine ⟨_, rfl, b, _, _, _, rfl, rfl, SqT.of (by rw [upd_ne (ne_of (t3 _ _ hb) hx3 (fun z => by cases z))]; exact upk hp (t3 _ _ hb)), rfl, ?_⟩
    refine ⟨_, rfl, x, cW, dx, _, rfl, upd_same, T.kW, T.nF _ (by decide), (lt1000 (pl (pl (pl (pl (Nat.le_refl 0))))) (by decide)), ?_⟩
    rw [upd_upd]
    refine ⟨_, rfl, x, cW, dx, _, rfl, upd_same, T.kW, T.nF _ (by decide), (lt1000 (pl (pl (pl (pl (pl (Nat.le_refl 0)))))) (by decide)), ?_⟩
    rw [upd_upd, wp_new]
    have hpx : p ≠ x := fun e => by rw [e, hx3] at hp; cases hp
    have kp : Kp x H (upd (upd H3 p (.tup [.int px, .int py])) x (.ins cW dx (wf tv d (.ref p) h s 0))) := Kp.own (k3.new hp)
    have tk : TK H (upd (upd H3 p (.tup [.int px, .int py])) x (.ins cW dx (wf tv d (.ref p) h s 0))) := TK.kp kp hx (nt _)
    have nd : H d = none := by
      cases z : H d with
      | none => rfl
      | some o =>
        have := k1 d o nxd.symm z
        rw [hd1] at this
        cases this
    refine q d _ kp nd ⟨dx, tv, .ref p, upd_same, ht.tk tk, Da.of_ints (ns := [px, py]) (by rw [upd_ne hpx]; exact upd_same), ?_⟩
    obtain ⟨kvs, z1, z2, z3⟩ := q3
    exact ⟨kvs, by rw [upd_ne nxd.symm]; exact upk hp z1, z2, z3⟩

/-! ### step -/
/-- the four headings -/
theorem heads (T : Txt K mg cW cE cN hA h0 h1 h2 h3) {h : Int} (a : 0 ≤ h) (b : h ≤ 3) : ∃ p, atI [V.ref h0, .ref h1, .ref h2, .ref h3] h = some (.ref p) ∧ ∀ H, SqT K H p [.int (dx h), .int (dy h)] := by
  have : h = 0 ∨ h = 1 ∨ h = 2 ∨ h = 3 := by omega
  rcases this with rfl | rfl | rfl | rfl
  · exact ⟨h0, rfl, T.sH0⟩
  · exact ⟨h1, rfl, T.sH1⟩
  · exact ⟨h2, rfl, T.sH2⟩
  · exact ⟨h3, rfl, T.sH3⟩
def spStep (C : Addr) : Sp := fun vs H Q _ => ∃ (x d : Addr) (t : Tab) (w : Wk) (k : Int) (m n : Nat) (B : Int), vs = [.ref x] ∧ WSt C H x d t w k m ∧ m < 4000 ∧ TabOk t n ∧ Ok t n B w ∧
  (fwd t w = none → Q (.bl false) H) ∧ ∀ w', fwd t w = some w' → ∀ H', Kp2 x d H H' → WSt C H' x d t w' (k + 1) (m + 1) → Q (.bl true) H'
theorem ok_Walk_step (T : Txt K mg cW cE cN hA h0 h1 h2 h3) : C8.Met P w K mg base 3 cW "step" (spStep cW) [] := by
  refine met_of T.kW T.d_Walk_step sc_Walk_step (fun vs H Q E h => ?_) (fun f cdv A outer s H vs Q E hr h => ?_)
  · obtain ⟨x, d, t, w, k, m, n, B, rfl, _⟩ := h
    rfl
  · obtain ⟨x, d, t, w, k, m, n, B, rfl, W, hm, okt, okw, q0, q1⟩ := h
    have hu := hu_of hr
    refine ⟨_, pss_cons (ps_set (i := 1) sc_Walk_step.nd rfl (Or.inl rfl) (C8.pe_mt0 (ok_Walk_entry T) hr (by decide) (pv 0)))
      (pss_cons (ps_if (pt_cmpR op_isN (pv 1) pe_non (nomark _))
        (pss_one (ps_ret (pe_bl)))
        pss_nil)
      (pss_cons (ps_asg (pv 1) (pg_tup rfl (pgs_cons (pg_name (i := 2) sc_Walk_step.nd rfl (Or.inl rfl)) (pgs_cons (pg_name (i := 3) sc_Walk_step.nd rfl (Or.inl rfl)) (pgs_cons (pg_name (i := 4) sc_Walk_step.nd rfl (Or.inl rfl)) pgs_nil)))))
      (C8.pss_cut (ps_if (PW.pt (pw_and (pt_cmpR op_ne (pv 2) (pe_int) (nomark _)) (pw_and (pt_cmp (pc_dnotin hu (pe_fld (pv 0) rfl) (pe_fld (pv 0) rfl))) (pw_and1 (pt_cmpR op_eq (pe_callB call_len_dT (by rfl) T.zlen PySem.boot_len (pa_cons (pe_fld (pv 0) rfl) pa_nil)) (C8.pe_gc rfl T.cMOST_SQUARES) (nomark _))))))
        (pss_one (ps_never))
        pss_nil)
      (C8.pss_cut (ps_if (pt_cmpR op_eq (pv 2) (pe_int) (nomark _))
        (pss_one (ps_expr (pe_bm PySem.F.plainAttrs_dict PySem.F.slot_dict_pop PySem.F.type_dict_pop (L2.DX.mt_popT hu) (pe_fld (pv 0) rfl) (pa_cons (pe_fld (pv 0) rfl) (pa_cons (pe_non) pa_nil)))))
        (pss_one (ps_dput hu (pe_fld (pv 0) rfl) (pe_fld (pv 0) rfl) (pv 2) rfl)))
      (pss_cons (ps_fld (pv 0) (pe_op op_mod (pe_op op_add (pe_fld (pv 0) rfl) (pv 3)) (pe_int)) rfl)
      (pss_cons (ps_set (i := 5) sc_Walk_step.nd rfl (Or.inl rfl) (pe_ix ix_tup (pe_glob (v := .ref hA) rfl T.cH rfl) (pe_fld (pv 0) rfl) (fun _ _ => rfl)))
      (pss_cons (ps_fld (pv 0) (pe_tup (pa_cons (pe_op op_add (pe_ix ix_tup (pe_fld (pv 0) rfl) (pe_int) (fun _ _ => rfl)) (pe_ix ix_tup (pv 5) (pe_int) (fun _ _ => rfl))) (pa_cons (pe_op op_add (pe_ix ix_tup (pe_fld (pv 0) rfl) (pe_int) (fun _ _ => rfl)) (pe_ix ix_tup (pv 5) (pe_int) (fun _ _ => rfl))) pa_nil))) rfl)
      (pss_cons (ps_fld (pv 0) (pv 4) rfl)
      (pss_cons (ps_fldaug (pv 0) (pe_int) in_add)
      (pss_one (ps_ret (pe_bl)))))))))))), ?_⟩
    obtain ⟨dx, tv, pp, hx, ht, hp, kvs, hd, hk, hl⟩ := id W
    obtain ⟨b, rfl, hb⟩ := hp.ints
    refine ⟨_, rfl, x, dx, _, rfl, hx, wf_entry, x, d, t, w, k, m, n, B, rfl, W, okt, okw, fun e he => ?_⟩
    obtain ⟨i, j, r, o, r1, r2, r3, r4, r5⟩ := read_ent okt okw (w.x, w.y)
    unfold fwd at q0 q1
    rw [r5] at he q0 q1
    cases o with
    | none =>
      cases he
      exact ⟨_, rfl, rfl, true, rfl, q0 rfl⟩
    | some e =>
      obtain ⟨⟨p0, p1⟩, ⟨t0, t1⟩, ⟨s0, s1⟩⟩ := ent_ok okt r3 r4
      obtain ⟨a, rfl, ha⟩ := he.ints
      refine ⟨_, rfl, rfl, false, rfl, ?_⟩
      refine ⟨_, rfl, a, _, rfl, SqT.of ha, rfl, _, _, rfl, _, _, rfl, _, _, rfl, rfl, ?_⟩
      refine ⟨fun σ' H' => σ' = [some (.ref x), some (.ref a), some (.int e.1), some (.int e.2.1), some (.int e.2.2), none] ∧ H' = H, ?_, ?_⟩
      · refine ⟨_, rfl, rfl, _, rfl, ?_⟩
        by_cases h0 : e.1 = 0
        · refine ifF (by rw [h0]; rfl) ?_
          exact ⟨rfl, rfl⟩
        · refine ifT (by simp [h0]) ?_
          refine ⟨_, rfl, x, cW, dx, _, _, rfl, hx, T.kW, T.nF _ (by decide), wf_place, _, rfl, x, cW, dx, _, _, rfl, hx, T.kW, T.nF _ (by decide), wf_squares, d, _, rfl, .inr ⟨kvs, kk (w.x, w.y), b, .inl hd, rfl, hb, rfl⟩, _, rfl, ?_⟩
          cases hv : valV kvs (kk (w.x, w.y)) with
          | some v => exact ⟨rfl, rfl⟩
          | none =>
            refine ⟨_, rfl, x, cW, dx, _, _, rfl, hx, T.kW, T.nF _ (by decide), wf_squares, d, kvs, rfl, hd, rfl, _, rfl, ?_⟩
            refine ifF (decide_eq_false fun z => ?_) ⟨rfl, rfl⟩
            injection z with z
            omega
      · rintro σ' H' ⟨rfl, rfl⟩
        refine ⟨fun σ' H2 => σ' = [some (.ref x), some (.ref a), some (.int e.1), some (.int e.2.1), some (.int e.2.2), none] ∧ Kp2 x d H' H2 ∧ H2 x = some (.ins cW dx (wf tv d (.ref b) w.h w.s k)) ∧ SqD H2 d (put w.f (w.x, w.y) e.1) (m + 1), ?_, ?_⟩
        · refine ⟨_, rfl, rfl, _, rfl, ?_⟩
          have nxd : x ≠ d := ne_of hx hd fun z => by cases z
          by_cases h0 : e.1 = 0
          · refine ifT (by rw [h0]; rfl) ?_
            refine ⟨_, rfl, x, cW, dx, _, _, rfl, hx, T.kW, T.nF _ (by decide), wf_squares, .inr (.inr (.inl ⟨rfl, .inr ⟨kvs, hd⟩⟩)), _, rfl, x, cW, dx, _, _, rfl, hx, T.kW, T.nF _ (by decide), wf_place, d, kvs, kk (w.x, w.y), b, .non, rfl, rfl, hd, hb, fun v hv => ?_, fun hv => ?_⟩
            · refine ⟨rfl, Kp2.r Kp2.refl, by rw [upd_ne nxd]; exact hx, _, upd_same, ?_, ?_⟩
              · rw [h0]
                exact hk.drop _
              · exact Nat.le_trans (dropK_le _ _) (Nat.le_succ_of_le hl)
            · refine ⟨rfl, Kp2.refl, hx, kvs, hd, ?_, Nat.le_succ_of_le hl⟩
              rw [h0, hk.absent hv]
              exact hk
          · refine ifF (by simp [h0]) ?_
            refine ⟨_, rfl, _, rfl, x, cW, dx, _, _, rfl, hx, T.kW, T.nF _ (by decide), wf_squares, _, rfl, x, cW, dx, _, _, rfl, hx, T.kW, T.nF _ (by decide), wf_place, d, _, rfl, .inr ⟨kvs, kk (w.x, w.y), b, hd, rfl, hb, big1000 (by omega), rfl⟩, ?_⟩
            refine ⟨rfl, Kp2.r Kp2.refl, by rw [upd_ne nxd]; exact hx, _, upd_same, hk.put _ _, ?_⟩
            exact Nat.le_trans (length_putK _ _ _) (Nat.succ_le_succ hl)
        · rintro σ' H2 ⟨rfl, k2, hx2, hd2⟩
          have nt : ∀ (fs : List (Str × V)) (zs : List V), HO.ins cW dx fs ≠ .tup zs := fun _ _ z => by cases z
          have nxd : x ≠ d := ne_of hx hd fun z => by cases z
          have tk2 : TK H' H2 := TK.kp2 k2 hx (nt _) hd fun _ z => by cases z
          obtain ⟨hp', hp1, hp2⟩ := heads T (h := (w.h + e.2.1) % 4) (by omega) (by omega)
          refine ⟨_, rfl, x, cW, dx, _, _, rfl, hx2, T.kW, T.nF _ (by decide), wf_heading, _, rfl, _, _, rfl, rfl, _, _, rfl, rfl, (by show (0 : Int) < 4; decide), ?_⟩
          refine ⟨_, rfl, x, cW, dx, _, rfl, hx2, T.kW, T.nF _ (by decide), (by show 6 < 1000; decide), ?_⟩
          rw [wp_heading]
          refine ⟨_, rfl, x, cW, dx, _, _, rfl, upd_same, T.kW, T.nF _ (by decide), wf_heading, hA, _, _, _, rfl, rfl, T.sH _, hp1, ?_⟩
          have hb2 : upd H2 x (.ins cW dx (wf tv d (.ref b) ((w.h + e.2.1) % 4) w.s k)) b = some (.tup [.int w.x, .int w.y]) := TK.at hx2 (nt _) _ _ (tk2 _ _ hb)
          refine ⟨_, rfl, x, cW, dx, _, _, rfl, upd_same, T.kW, T.nF _ (by decide), wf_place, b, _, _, _, rfl, rfl, SqT.of hb2, rfl, _, rfl, hp', _, _, _, rfl, rfl, hp2 _, rfl, _, _, rfl, rfl, ?_⟩
          refine ⟨_, rfl, x, cW, dx, _, _, rfl, upd_same, T.kW, T.nF _ (by decide), wf_place, b, _, _, _, rfl, rfl, SqT.of hb2, rfl, _, rfl, hp', _, _, _, rfl, rfl, hp2 _, rfl, _, _, rfl, rfl, (by show 2 ≤ sizeLine; decide), fun p hp => ?_⟩
          have npx : p ≠ x := fun z => by rw [z, upd_same] at hp; cases hp
          have npd : p ≠ d := by
            obtain ⟨kvs2, z, _⟩ := hd2
            intro y
            rw [y, upd_ne nxd.symm, z] at hp
            cases hp
          refine ⟨_, rfl, x, cW, dx, _, rfl, upk hp upd_same, T.kW, T.nF _ (by decide), (by show 6 < 1000; decide), ?_⟩
          rw [wp_place]
          refine ⟨_, rfl, _, rfl, x, cW, dx, _, rfl, upd_same, T.kW, T.nF _ (by decide), (by show 6 < 1000; decide), ?_⟩
          rw [upd_upd, wp_state]
          refine ⟨_, rfl, x, cW, dx, _, _, rfl, upd_same, T.kW, T.nF _ (by decide), wf_done, _, _, rfl, rfl, dx, _, upd_same, (by show 6 < 1000; decide), ?_⟩
          rw [upd_upd, wp_done]
          have kk2 : Kp2 x d H' (upd (upd (upd H2 x (.ins cW dx (wf tv d (.ref b) ((w.h + e.2.1) % 4) w.s k))) p (.tup [.int (w.x + Way.dx ((w.h + e.2.1) % 4)), .int (w.y + Way.dy ((w.h + e.2.1) % 4))])) x (.ins cW dx (wf tv d (.ref p) ((w.h + e.2.1) % 4) e.2.2 (k + 1)))) :=
            Kp2.l ((Kp2.l k2).new hp)
          refine q1 _ rfl _ kk2 ⟨dx, tv, .ref p, upd_same, ht.tk (TK.kp2 kk2 hx (nt _) hd fun _ z => by cases z), Da.of_ints (ns := [_, _]) (by rw [upd_ne npx]; exact upd_same), ?_⟩
          obtain ⟨kvs2, z1, z2, z3⟩ := hd2
          exact ⟨kvs2, by rw [upd_ne nxd.symm, upd_ne npd.symm, upd_ne nxd.symm]; exact z1, z2, z3⟩
end
end WayP
/-! go, stand; walk -/
namespace WayP
open PySem PySem.Spec PyProof.Rows L2 WayR Way
section
variable {P : Program} {w : World} {K : PySem.W.Frag} {mg : Str → Option Value} {base : Heap} {cW cE cN hA h0 h1 h2 h3 : Addr}
/-! ### go -/
def spGo (C : Addr) : Sp := fun vs H Q _ => ∃ (x d : Addr) (t : Tab) (w : Wk) (m n M : Nat) (B : Int), vs = [.ref x, .int (M : Int)] ∧ WSt C H x d t w 0 m ∧ m + M < 4000 ∧ TabOk t n ∧ Ok t n B w ∧
  ∀ H', Kp2 x d H H' → WSt C H' x d t (fwdN t M w).1 ((fwdN t M w).2 : Int) (m + M) → Q .non H'
theorem ok_Walk_go (T : Txt K mg cW cE cN hA h0 h1 h2 h3) : C8.Met P w K mg base 4 cW "go" (spGo cW) [] := by
  refine met_of T.kW T.d_Walk_go sc_Walk_go (fun vs H Q E h => ?_) (fun f cdv A outer s H vs Q E hr h => ?_)
  · obtain ⟨x, d, t, w, m, n, M, B, rfl, _⟩ := h
    rfl
  · obtain ⟨x, d, t, w, m, n, M, B, rfl, W, hm, okt, okw, q⟩ := h
    have hu := hu_of hr
    refine ⟨_, pss_one (ps_while PassesOwn.never (PW.pt (pw_and (pt_cmpR op_lt (pe_fld (pv 0) rfl) (pv 1) (nomark _)) (pw_and1 (pt_val (C8.pe_mt0 (ok_Walk_step T) hr (by decide) (pv 0))))))
        (pss_one (ps_continue))), ?_⟩
    refine ⟨fun mu σ H' => ∃ (j k : Nat) (w' : Wk), mu = j ∧ j + k = M ∧ σ = [some (.ref x), some (.int (M : Int))] ∧ Kp2 x d H H' ∧ WSt cW H' x d t w' (k : Int) (m + k) ∧ Ok t n (B + (k : Int)) w' ∧ (fwdN t j w').1 = (fwdN t M w).1 ∧ (fwdN t j w').2 + k = (fwdN t M w).2,
      ⟨M, M, 0, w, rfl, rfl, rfl, Kp2.refl, W, okw.mono (by omega), rfl, rfl⟩, ?_⟩
    rintro j σ H' ⟨_, k, w', rfl, hjk, rfl, kp, W', okw', e1, e2⟩
    obtain ⟨dx, tv, pp, hx, ht, hp, hd⟩ := id W'
    refine ⟨_, rfl, x, cW, dx, _, _, rfl, hx, T.kW, T.nF _ (by decide), wf_done, _, rfl, _, _, rfl, rfl, _, rfl, ?_⟩
    by_cases hk : (k : Int) < (M : Int)
    · refine ifT (decide_eq_true hk) ?_
      refine ⟨_, rfl, x, dx, _, rfl, hx, wf_step, x, d, t, w', (k : Int), m + k, n, _, rfl, W', by omega, okt, okw', fun h0 => ⟨false, rfl, ?_⟩, fun w2 h2 H2 kp2 W2 => ⟨true, rfl, ?_⟩⟩
      · rw [fwdN_stop h0] at e1 e2
        have e2' : k = (fwdN t M w).2 := by have : 0 + k = (fwdN t M w).2 := e2; omega
        have e1' : w' = (fwdN t M w).1 := e1
        refine q H' kp ?_
        rw [← e1', ← e2']
        obtain ⟨dx, tv, pp, hx, ht, hp, hd⟩ := W'
        exact ⟨dx, tv, pp, hx, ht, hp, hd.mono (by omega)⟩
      · obtain ⟨i, rfl⟩ : ∃ i, j = i + 1 := ⟨j - 1, by omega⟩
        rw [fwdN_go h2] at e1 e2
        refine ⟨_, fun σ' H' h => ⟨i, Nat.lt_succ_self i, h⟩, ?_⟩
        refine ⟨i, k + 1, w2, rfl, by omega, rfl, kp.trans kp2, ?_, ?_, e1, ?_⟩
        · have : ((k + 1 : Nat) : Int) = (k : Int) + 1 := by omega
          rw [this]
          exact W2
        · exact (fwd_ok okt okw' h2).mono (by omega)
        · have : (fwdN t i w2).2 + 1 + k = (fwdN t M w).2 := e2
          omega
    · refine ifF (decide_eq_false hk) ?_
      have e : k = M := by omega
      have j0 : j = 0 := by omega
      subst j0
      have e2' : k = (fwdN t M w).2 := by have : 0 + k = (fwdN t M w).2 := e2; omega
      have e1' : w' = (fwdN t M w).1 := e1
      refine q H' kp ?_
      rw [← e1', ← e2']
      obtain ⟨dx, tv, pp, hx, ht, hp, hd⟩ := W'
      exact ⟨dx, tv, pp, hx, ht, hp, hd.mono (by omega)⟩
/-! ### stand -/
def spStand (C : Addr) : Sp := fun vs H Q _ => ∃ (x d : Addr) (t : Tab) (w : Wk) (k : Int) (m : Nat), vs = [.ref x] ∧ WSt C H x d t w k m ∧ m ≤ 5000 ∧ ∀ a u v F H', Same H H' → H' a = some (.tup [u, v]) → Da H' u (floD F) → IsFloor F w.f → F.length ≤ m → Da H' v (wkD w.x w.y w.h w.s) → Q (.ref a) H'
theorem ok_Walk_stand (T : Txt K mg cW cE cN hA h0 h1 h2 h3) : C8.Met P w K mg base 2 cW "stand" (spStand cW) [] := by
  refine met_of T.kW T.d_Walk_stand sc_Walk_stand (fun vs H Q E h => ?_) (fun f cdv A outer s H vs Q E hr h => ?_)
  · obtain ⟨x, d, t, w, k, m, rfl, _⟩ := h
    rfl
  · obtain ⟨x, d, t, w, k, m, rfl, W, hm, q⟩ := h
    have hu := hu_of hr
    refine ⟨_, pss_one (ps_ret (pe_tup (pa_cons (C8.pe_c (ok_floor_of T) hr (by decide) rfl (pa_cons (pe_fld (pv 0) rfl) pa_nil)) (pa_cons (C8.pe_mt0 (ok_Walk_walker T) hr (by decide) (pv 0)) pa_nil)))), ?_⟩
    obtain ⟨dx, tv, pp, hx, ht, hp, hd⟩ := id W
    refine ⟨_, rfl, x, cW, dx, _, _, rfl, hx, T.kW, T.nF _ (by decide), wf_squares, d, w.f, m, rfl, hd, hm, fun u F H1 s1 hF iF lF => ?_⟩
    have W1 : WSt cW H1 x d t w k m := ⟨dx, tv, pp, s1 _ _ hx, ht.tk (TK.of s1), hp.tk (TK.of s1), hd.same s1⟩
    refine ⟨_, rfl, x, dx, _, rfl, s1 _ _ hx, wf_walker, x, d, t, w, k, m, rfl, W1, fun v H2 s2 hv => ?_⟩
    refine ⟨(by show 2 ≤ sizeLine; decide), fun p hp => ?_⟩
    exact q p u v F _ ((s1.trans s2).trans (Same.new hp)) upd_same (hF.tk ((TK.of s2).trans (TK.new hp))) iF lF (hv.tk (TK.new hp))
/-! ### walk -/
def spWalk : Sp := fun vs H Q _ => ∃ (tv gv uv : V) (t : Tab) (n M : Nat) (F : List Sq) (x y h s : Int), vs = [tv, gv, uv, .int (M : Int)] ∧ Da H tv (tabD t) ∧ TabOk t n ∧ Da H gv (floD F) ∧ FloOk F n Bg ∧ Da H uv (wkD x y h s) ∧ WkOk x y h s t Bg ∧ F.length + M < 4000 ∧ M ≤ 100000 ∧
  ∀ a u v G H', Same H H' → H' a = some (.tup [u, v, .int ((fwdN t M ⟨sqF F, x, y, h, s⟩).2 : Int)]) → Da H' u (floD G) → IsFloor G (fwdN t M ⟨sqF F, x, y, h, s⟩).1.f → G.length ≤ F.length + M →
    Da H' v (wkD (fwdN t M ⟨sqF F, x, y, h, s⟩).1.x (fwdN t M ⟨sqF F, x, y, h, s⟩).1.y (fwdN t M ⟨sqF F, x, y, h, s⟩).1.h (fwdN t M ⟨sqF F, x, y, h, s⟩).1.s) → Q (.ref a) H'
/-- the start is well formed -/
theorem ok_start {t : Tab} {n : Nat} {F : List Sq} {x y h s B : Int} (okt : TabOk t n) (okf : FloOk F n B) (okw : WkOk x y h s t B) : Ok t n B ⟨sqF F, x, y, h, s⟩ := by
  have hF := okf.fl
  have g : ∀ q, sqF F q = 0 ∨ ((q.1, q.2, sqF F q) ∈ F) := fun q => by
    by_cases e : sqF F q = 0
    · exact .inl e
    · exact .inr ((hF.mem q.1 q.2 _).mpr ⟨rfl, e⟩)
  have c2 := okt.c1
  refine ⟨okw.h_.1, okw.h_.2, okw.s_.1, okw.s_.2, okw.x_.1, okw.x_.2, okw.y_.1, okw.y_.2, fun q => ?_, fun q => ?_, fun q hq => ?_⟩
  · show 0 ≤ sqF F q
    rcases g q with e | e
    · omega
    · have := (okf.ok _ e).2.2.1
      simp only at this
      omega
  · show sqF F q < (n : Int)
    rcases g q with e | e
    · omega
    · exact (okf.ok _ e).2.2.2
  · rcases g q with e | e
    · exact absurd e hq
    · exact ⟨(okf.ok _ e).1, (okf.ok _ e).2.1⟩
theorem ok_walk (T : Txt K mg cW cE cN hA h0 h1 h2 h3) : C8.Cal P w K mg base 6 "walk" spWalk [] := by
  refine cal_of T.d_walk sc_walk (fun vs H Q E h => ?_) (fun f cdv A outer s H vs Q E hr h => ?_)
  · obtain ⟨tv, gv, uv, t, n, M, F, x, y, h, s, rfl, _⟩ := h
    rfl
  · obtain ⟨tv, gv, uv, t, n, M, F, x, y, h, s, rfl, hv, okt, hg, okf, hw, okw, hM, hM2, q⟩ := h
    have hu := hu_of hr
    refine ⟨_, pss_cons (ps_expr (C8.pe_c (ok_need_stand T) hr (by decide) rfl (pa_cons (pv 0) (pa_cons (pv 1) (pa_cons (pv 2) pa_nil)))))
      (pss_cons (ps_if (pt_not (pt_val (C8.pe_c (ok_is_in T) hr (by decide) rfl (pa_cons (pv 3) (pa_cons (pe_int) (pa_cons (C8.pe_gc rfl T.cMOST_STEPS) pa_nil))))))
        (pss_one (ps_never))
        pss_nil)
      (pss_cons (ps_set (i := 4) sc_walk.nd rfl (Or.inl rfl) (C8.pe_mk (ok_Walkx_initx T) hr (by decide) rfl (pa_cons (pv 0) (pa_cons (pv 1) (pa_cons (pv 2) pa_nil)))))
      (pss_cons (ps_expr (C8.pe_mt (ok_Walk_go T) hr (by decide) (pv 4) (pa_cons (pv 3) pa_nil)))
      (pss_one (ps_ret (pe_op op_catA (C8.pe_mt0 (ok_Walk_stand T) hr (by decide) (pv 4)) (pe_tup (pa_cons (pe_fld (pv 4) rfl) pa_nil)))))))), ?_⟩
    refine ⟨_, rfl, _, rfl, _, rfl, tv, gv, uv, t, n, F, x, y, h, s, rfl, hv, okt, hg, okf, hw, okw, fun H1 s1 => ?_⟩
    refine ⟨_, rfl, _, _, _, rfl, by omega, (by show (M : Int) ≤ 100000; omega), true, rfl, ?_⟩
    refine ⟨_, rfl, _, rfl, _, rfl, fun p dx hp hdx hne => ?_⟩
    have s2 : Same H1 (upd (upd H1 dx (.own p)) p (.ins cW dx [])) := (Same.new hdx).trans (Same.new (by rw [upd_ne hne.symm]; exact hp))
    have tk2 := TK.of (s1.trans s2)
    refine ⟨p, dx, tv, gv, uv, t, F, n, Bg, x, y, h, s, rfl, upd_same, hv.tk tk2, hg.tk tk2, okf, hw.tk tk2, fun d H3 k3 hd3 W3 => ⟨rfl, ?_⟩⟩
    have p0 : H p = none := s1.free hp
    have d0 : H d = none := (s1.trans s2).free hd3
    have s3 : Same H H3 := fun b o e => k3 b o (ne_of_none e p0) ((s1.trans s2) b o e)
    obtain ⟨dx', tv', pp, hx', ht', hp', hd'⟩ := id W3
    refine ⟨_, rfl, p, dx', _, rfl, hx', wf_go, _, rfl, p, d, t, _, F.length, n, M, Bg, rfl, W3, hM, okt, ok_start okt okf okw, fun H4 k4 W4 => ?_⟩
    have s4 : Same H H4 := fun b o e => k4 b o (ne_of_none e p0) (ne_of_none e d0) (s3 b o e)
    obtain ⟨dx2, tv2, pp2, hx2, ht2, hp2, hd2⟩ := id W4
    refine ⟨_, rfl, p, dx2, _, rfl, hx2, wf_stand, p, d, t, _, _, F.length + M, rfl, W4, by omega, fun a u v G H5 s5 ha hG iG lG hW => ?_⟩
    refine ⟨_, rfl, p, cW, dx2, _, _, rfl, s5 _ _ hx2, T.kW, T.nF _ (by decide), wf_done, (by show 1 ≤ sizeLine; decide), fun z hz => ?_⟩
    refine ⟨a, z, _, _, rfl, rfl, SqT.of (upk hz ha), SqT.of upd_same, (by show 3 ≤ sizeLine; decide), (fun z => by cases z), (fun _ z => by cases z), fun _ _ y hy => ?_⟩
    have t6 := (TK.new (u := .tup [.int ((fwdN t M ⟨sqF F, x, y, h, s⟩).2 : Int)]) hz)
    refine q y u v G _ (((s4.trans s5).trans (Same.new hz)).trans (Same.new hy)) upd_same (hG.tk ((TK.new hz).trans (TK.new hy))) iG lG (hW.tk ((TK.new hz).trans (TK.new hy)))
end
end WayP
/-! sources_in, can_be_undone -/
namespace WayP
open PySem PySem.Spec PyProof.Rows L2 WayR Way
section
variable {P : Program} {w : World} {K : PySem.W.Frag} {mg : Str → Option Value} {base : Heap} {cW cE cN hA h0 h1 h2 h3 : Addr}
/-! ### the dict of sources -/
abbrev pD (q : Int × Int) : D := iD [q.1, q.2]
structure SrcK (H : Hp) (kvs : List (List Key × V)) (cs : List ((Int × Int) × Option Ent)) : Prop where
  nd : (kvs.map (·.1)).Nodup
  ks : ∀ k ∈ kvs.map (·.1), ∃ q, k = kk q
  vl : ∀ q, (valV kvs (kk q) = none ∧ srcsOf cs q = []) ∨ ∃ (l : Addr) (xs : List V), valV kvs (kk q) = some (.ref l) ∧ H l = some (.lst xs) ∧ srcsOf cs q ≠ [] ∧ DaAll H xs ((srcsOf cs q).map pD)
def LK (H H' : Hp) : Prop := ∀ b xs, H b = some (.lst xs) → H' b = some (.lst xs)
theorem LK.of {H H' : Hp} (s : Same H H') : LK H H' := fun _ _ h => s _ _ h
theorem LK.at {H : Hp} {p : Addr} {u o : HO} (hp : H p = some o) (ho : ∀ xs, o ≠ .lst xs) : LK H (upd H p u) := fun b xs h => by
  rw [upd_ne (ne_of h hp fun e => ho xs e.symm)]
  exact h
theorem SrcK.lk {H H' : Hp} {kvs : List (List Key × V)} {cs : List ((Int × Int) × Option Ent)} (S : SrcK H kvs cs) (t : TK H H') (l : LK H H') : SrcK H' kvs cs :=
  ⟨S.nd, S.ks, fun q => (S.vl q).imp id fun ⟨a, xs, h1, h2, h3, h4⟩ => ⟨a, xs, h1, l _ _ h2, h3, h4.tk t⟩⟩
theorem SrcK.none {H : Hp} {kvs : List (List Key × V)} {cs : List ((Int × Int) × Option Ent)} (S : SrcK H kvs cs) (p : Int × Int) : SrcK H kvs (cs ++ [(p, Option.none)]) :=
  ⟨S.nd, S.ks, fun q => by
    rw [srcsOf_append, srcsOf_one_no (fun z => by cases z), List.append_nil]
    exact S.vl q⟩
theorem SrcK.some {H : Hp} {kvs : List (List Key × V)} {cs : List ((Int × Int) × Option Ent)} (S : SrcK H kvs cs) {p : Int × Int} {e : Ent} {l : Addr} {xs : List V} (hl : H l = Option.some (.lst xs)) (hx : DaAll H xs ((srcsOf cs (e.2.2, e.1) ++ [p]).map pD)) :
    SrcK H (putK kvs (kk (e.2.2, e.1)) (.ref l)) (cs ++ [(p, Option.some e)]) := by
  obtain ⟨n1, n2⟩ := nd_putK' (k := kk (e.2.2, e.1)) (.ref l) S.nd
  refine ⟨n1, fun k hk => ?_, fun q => ?_⟩
  · rcases n2 k hk with z | z
    · exact ⟨_, z⟩
    · exact S.ks k z
  · rw [valV_put, srcsOf_append]
    by_cases h : q = (e.2.2, e.1)
    · rw [if_pos (by rw [h]), srcsOf_one_yes (x := (p, Option.some e)) (k := q) (by rw [h]; rfl)]
      refine .inr ⟨l, xs, rfl, hl, by simp, ?_⟩
      rw [h]
      exact hx
    · rw [if_neg fun z => h (kk_inj z), srcsOf_one_no (x := (p, Option.some e)) (k := q) (fun z => h (Option.some.inj z).symm), List.append_nil]
      exact S.vl q
def SrcD (H : Hp) (d : Addr) (cs : List ((Int × Int) × Option Ent)) : Prop := ∃ kvs, H d = some (.dT kvs) ∧ SrcK H kvs cs ∧ kvs.length ≤ cs.length
theorem SrcD.same {H H' : Hp} {d : Addr} {cs : List ((Int × Int) × Option Ent)} (h : SrcD H d cs) (s : Same H H') : SrcD H' d cs := by
  obtain ⟨kvs, a, b, c⟩ := h
  exact ⟨kvs, s _ _ a, b.lk (TK.of s) (LK.of s), c⟩
theorem rowCells_len (i : Nat) : ∀ (r : List (Option Ent)) (j : Nat), (rowCells i j r).length = r.length
  | [], _ => rfl
  | _ :: r, j => congrArg Nat.succ (rowCells_len i r (j + 1))
theorem tabCells_len {n : Nat} : ∀ (t : Tab) (i : Nat), (∀ r ∈ t, r.length = n) → (tabCells i t).length = t.length * n
  | [], _, _ => by simp [tabCells]
  | r :: t, i, h => by
    show (rowCells i 0 r ++ tabCells (i + 1) t).length = (t.length + 1) * n
    rw [List.length_append, rowCells_len, h r List.mem_cons_self, tabCells_len t (i + 1) fun r hr => h r (List.mem_cons_of_mem _ hr), Nat.add_mul, Nat.one_mul, Nat.add_comm]
theorem srcsOf_len (cs : List ((Int × Int) × Option Ent)) (k : Int × Int) : (srcsOf cs k).length ≤ cs.length := by
  unfold srcsOf
  rw [List.length_map]
  exact List.length_filter_le _ _
theorem cells_len {t : Tab} {n : Nat} (T : TabOk t n) : (cells t).length ≤ 60 := by
  rw [tabCells_len t 0 T.rows]
  have := T.s2
  have := T.c2
  calc t.length * n ≤ 10 * 6 := Nat.mul_le_mul (by omega) (by omega)
    _ = 60 := rfl
/-- the cells ahead of a row's j-th: not more than all -/
theorem some_len {t : Tab} {n i j : Nat} (T : TabOk t n) {r : List (Option Ent)} (hr : t[i]? = some r) : (tabCells 0 (t.take i) ++ rowCells i 0 (r.take j)).length ≤ 66 := by
  rw [List.length_append, rowCells_len, tabCells_len (n := n) (t.take i) 0 (fun r hr => T.rows r (List.mem_of_mem_take hr)), List.length_take, List.length_take]
  have := T.s2
  have := T.c2
  have : r.length = n := T.rows r (List.mem_of_getElem? hr)
  have : min i t.length * n ≤ 10 * 6 := Nat.mul_le_mul (by omega) (by omega)
  omega

/-! ### sources_in -/
def spSources : Sp := fun vs H Q _ => ∃ (x : V) (t : Tab) (n : Nat), vs = [x] ∧ Da H x (tabD t) ∧ TabOk t n ∧ ∀ d H', Same H H' → H d = none → SrcD H' d (cells t) → Q (.ref d) H'
theorem ok_sources_in (T : Txt K mg cW cE cN hA h0 h1 h2 h3) : C8.Cal P w K mg base 1 "sources_in" spSources [] := by
  refine cal_of T.d_sources_in sc_sources_in (fun vs H Q E h => ?_) (fun f cdv A outer s H vs Q E hr h => ?_)
  · obtain ⟨x, t, n, rfl, _⟩ := h
    rfl
  · obtain ⟨x, t, n, rfl, hx, okt, q⟩ := h
    have hu := hu_of hr
    refine ⟨_, pss_cons (ps_set (i := 1) sc_sources_in.nd rfl (Or.inl rfl) (pe_dnewT))
      (pss_cons (ps_for PassesOwn.never rfl (pi_enumT rfl T.zenumerate (pa_cons (pv 0) pa_nil)) (pg_tup rfl (pgs_cons (pg_name (i := 2) sc_sources_in.nd rfl (Or.inl rfl)) (pgs_cons (pg_name (i := 3) sc_sources_in.nd rfl (Or.inl rfl)) pgs_nil)))
        (pss_one (ps_for PassesOwn.never rfl (pi_enumT rfl T.zenumerate (pa_cons (pv 3) pa_nil)) (pg_tup rfl (pgs_cons (pg_name (i := 4) sc_sources_in.nd rfl (Or.inl rfl)) (pgs_cons (pg_name (i := 5) sc_sources_in.nd rfl (Or.inl rfl)) pgs_nil)))
          (pss_one (ps_if (pt_cmpR op_notN (pv 5) pe_non (nomark _))
            (pss_cons (ps_set (i := 6) sc_sources_in.nd rfl (Or.inl rfl) (pe_tup (pa_cons (pe_ix ix_tup (pv 5) (pe_int) (fun _ _ => rfl)) (pa_cons (pe_ix ix_tup (pv 5) (pe_int) (fun _ _ => rfl)) pa_nil))))
            (pss_one (ps_dput hu (pv 1) (pv 6) (pe_op op_cat (pe_dget2 hu (pv 1) (pv 6) (pe_lst pa_nil) ⟨rfl, rfl, rfl, rfl⟩) (pe_lst (pa_cons (pe_tup (pa_cons (pv 2) (pa_cons (pv 4) pa_nil))) pa_nil))) rfl)))
            pss_nil)))))
      (pss_one (ps_ret (pv 1)))), ?_⟩
    obtain ⟨a, xs, rfl, ha, hlen, hget, hget'⟩ := hx.map
    refine fun d hd => ?_
    refine ⟨_, rfl, a, xs, rfl, SqT.of (upk hd ha), for_it walk_enumT (fun i σ H' => ∃ v2 v3 v4 v5 v6, σ = [some (.ref a), some (.ref d), v2, v3, v4, v5, v6] ∧ Same H H' ∧ SrcD H' d (tabCells 0 (t.take i)))
      ⟨_, _, _, _, _, rfl, Same.new hd, [], upd_same, ⟨List.Pairwise.nil, (fun _ h => by cases h), fun _ => .inl ⟨rfl, rfl⟩⟩, Nat.le_refl _⟩ (fun i σ H' _ ⟨_, _, _, _, _, _, s0, _⟩ => SqT.of (s0 _ _ ha)) ?_ ?_⟩
    · rintro i y σ H1 H2 hi ⟨v2, v3, v4, v5, v6, rfl, s0, sd⟩ ⟨p, u, z, rfl, hp, rfl, hu1, hz⟩
      cases Option.some.inj hu1
      obtain ⟨r, hr', hdr⟩ := hget' i z hz
      obtain ⟨b, ys, rfl, hb, hl, _, hgr⟩ := hdr.map
      have s1 : Same H (upd H1 p (.tup [.int (i : Nat), .ref b])) := s0.trans (Same.new hp)
      have sd1 := sd.same (Same.new (u := .tup [.int (i : Nat), .ref b]) hp)
      refine ⟨p, _, rfl, SqT.of upd_same, rfl, _, _, rfl, _, _, rfl, rfl, ?_⟩
      refine ⟨_, rfl, b, ys, rfl, SqT.of (s1 _ _ hb), for_it walk_enumT (fun j σ H' => ∃ v4 v5 v6, σ = [some (.ref a), some (.ref d), some (.int (i : Nat)), some (.ref b), v4, v5, v6] ∧ Same H H' ∧ SrcD H' d (tabCells 0 (t.take i) ++ rowCells i 0 (r.take j)))
        ⟨_, _, _, rfl, s1, by rw [List.take_zero]; show SrcD _ _ (_ ++ []); rw [List.append_nil]; exact sd1⟩ (fun i σ H' _ ⟨_, _, _, _, s0, _⟩ => SqT.of (s0 _ _ hb)) ?_ ?_⟩
      · rintro j y σ H3 H4 hj ⟨v4, v5, v6, rfl, s2, kvs, hdd, hk, hkl⟩ ⟨p3, u3, z3, rfl, hp3, rfl, hu3, hz3⟩
        cases Option.some.inj hu3
        obtain ⟨o, ho, hdo⟩ := hgr j z3 hz3
        have s4 : Same H (upd H3 p3 (.tup [.int (j : Nat), z3])) := s2.trans (Same.new hp3)
        have s34 : Same H3 (upd H3 p3 (.tup [.int (j : Nat), z3])) := Same.new hp3
        have hlen66 := some_len (j := j) okt hr'
        rw [rowCells_take ho, ← List.append_assoc]
        refine ⟨p3, _, rfl, SqT.of upd_same, rfl, _, _, rfl, _, _, rfl, rfl, ?_⟩
        cases o with
        | none =>
          cases hdo
          refine ⟨_, rfl, rfl, false, rfl, ?_⟩
          refine ⟨_, _, _, rfl, s4, kvs, s34 _ _ hdd, (hk.lk (TK.of s34) (LK.of s34)).none _, ?_⟩
          rw [List.length_append]
          omega
        | some e =>
          obtain ⟨ae, rfl, he⟩ := hdo.ints
          have he4 := s4 _ _ he
          refine ⟨_, rfl, rfl, true, rfl, ?_⟩
          refine ⟨_, rfl, ae, _, _, _, rfl, rfl, SqT.of he4, rfl, _, rfl, ae, _, _, _, rfl, rfl, SqT.of he4, rfl, (by show 2 ≤ sizeLine; decide), fun p5 hp5 => ?_⟩
          have s5 := s34.trans (Same.new (u := .tup [.int e.2.2, .int e.1]) hp5)
          generalize eH5 : upd (upd H3 p3 (.tup [.int (j : Nat), .ref ae])) p5 (.tup [.int e.2.2, .int e.1]) = H5 at s5
          have key5 : H5 p5 = some (.tup [.int e.2.2, .int e.1]) := by rw [← eH5]; exact upd_same
          refine ⟨_, rfl, d, rfl, .inr ⟨kvs, .inl (s5 _ _ hdd)⟩, _, rfl, ⟨Nat.zero_le _, fun p6 hp6 => ?_⟩⟩
          have s6 := s5.trans (Same.new (u := .lst []) hp6)
          generalize eH6 : upd H5 p6 (.lst []) = H6 at s6
          have key6 : H6 p5 = some (.tup [.int e.2.2, .int e.1]) := by rw [← eH6]; exact upk hp6 key5
          have l6 : H6 p6 = some (.lst []) := by rw [← eH6]; exact upd_same
          refine ⟨_, .inr ⟨kvs, kk (e.2.2, e.1), p5, .inl (s6 _ _ hdd), rfl, key6, rfl⟩, ?_⟩
          -- what stood there
          obtain ⟨lx, xs6, elx, hlx, hdx⟩ : ∃ (lx : Addr) (xs6 : List V), (valV kvs (kk (e.2.2, e.1))).getD (.ref p6) = .ref lx ∧ H6 lx = some (.lst xs6) ∧ DaAll H6 xs6 ((srcsOf (tabCells 0 (t.take i) ++ rowCells i 0 (r.take j)) (e.2.2, e.1)).map pD) := by
            rcases hk.vl (e.2.2, e.1) with ⟨z1, z2⟩ | ⟨l, zs, z1, z2, z3, z4⟩
            · exact ⟨p6, [], by rw [z1]; rfl, l6, by rw [z2]; exact .nil⟩
            · exact ⟨l, zs, by rw [z1]; rfl, s6 _ _ z2, z4.tk (TK.of s6)⟩
          rw [elx]
          refine ⟨_, rfl, _, rfl, (by show 2 ≤ sizeLine; decide), fun p7 hp7 => ⟨(by show 1 ≤ sizeLine; decide), fun p8 hp8 => ?_⟩⟩
          have hxl : xs6.length ≤ 66 := by
            rw [hdx.length, List.length_map]
            exact Nat.le_trans (srcsOf_len _ _) hlen66
          refine ⟨lx, p8, xs6, _, rfl, rfl, upk hp8 (upk hp7 hlx), upd_same, Nat.le_trans (by show xs6.length + 1 ≤ 100; omega) (by decide), fun p9 hp9 => ?_⟩
          have s9 := ((s6.trans (Same.new (u := .tup [.int (i : Nat), .int (j : Nat)]) hp7)).trans (Same.new (u := .lst [.ref p7]) hp8)).trans (Same.new (u := .lst (xs6 ++ [.ref p7])) hp9)
          have key9 : upd (upd (upd H6 p7 (.tup [.int (i : Nat), .int (j : Nat)])) p8 (.lst [.ref p7])) p9 (.lst (xs6 ++ [.ref p7])) p5 = some (.tup [.int e.2.2, .int e.1]) := upk hp9 (upk hp8 (upk hp7 key6))
          have tk9 : TK H6 (upd (upd (upd H6 p7 (.tup [.int (i : Nat), .int (j : Nat)])) p8 (.lst [.ref p7])) p9 (.lst (xs6 ++ [.ref p7]))) := ((TK.new hp7).trans (TK.new hp8)).trans (TK.new hp9)
          have da9 : DaAll (upd (upd (upd H6 p7 (.tup [.int (i : Nat), .int (j : Nat)])) p8 (.lst [.ref p7])) p9 (.lst (xs6 ++ [.ref p7]))) (xs6 ++ [.ref p7]) ((srcsOf (tabCells 0 (t.take i) ++ rowCells i 0 (r.take j)) (e.2.2, e.1) ++ [((i : Int), (j : Int))]).map pD) := by
            rw [List.map_append]
            exact DaAll.snoc (Da.of_ints (ns := [(i : Int), (j : Int)]) (upk hp9 (upk hp8 upd_same))) (hdx.tk tk9)
          have at9 : upd (upd (upd H6 p7 (.tup [.int (i : Nat), .int (j : Nat)])) p8 (.lst [.ref p7])) p9 (.lst (xs6 ++ [.ref p7])) p9 = some (.lst (xs6 ++ [.ref p7])) := upd_same
          generalize upd (upd (upd H6 p7 (.tup [.int (i : Nat), .int (j : Nat)])) p8 (.lst [.ref p7])) p9 (.lst (xs6 ++ [.ref p7])) = H9 at s9 key9 tk9 da9 at9
          refine ⟨_, rfl, _, rfl, d, _, rfl, .inr ⟨kvs, kk (e.2.2, e.1), p5, s9 _ _ hdd, rfl, key9, big1000 (by omega), rfl⟩, ?_⟩
          have td : TK H9 (upd H9 d (.dT (putK kvs (kk (e.2.2, e.1)) (.ref p9)))) := TK.at (s9 _ _ hdd) fun _ z => by cases z
          have ld : LK H9 (upd H9 d (.dT (putK kvs (kk (e.2.2, e.1)) (.ref p9)))) := LK.at (s9 _ _ hdd) fun _ z => by cases z
          refine ⟨_, _, _, rfl, Same.put (s2.trans s9) hd, _, upd_same, ?_, ?_⟩
          · exact ((hk.lk (TK.of s9) (LK.of s9)).lk td ld).some (ld _ _ at9) (da9.tk td)
          · refine Nat.le_trans (length_putK _ _ _) ?_
            rw [List.length_append]
            exact Nat.succ_le_succ hkl
      · rintro σ H3 ⟨v4, v5, v6, rfl, s2, sd2⟩
        refine ⟨_, _, _, _, _, rfl, s2, ?_⟩
        rw [take_all (l := r) (by omega)] at sd2
        rw [tabCells_take hr']
        exact sd2
    · rintro σ H' ⟨v2, v3, v4, v5, v6, rfl, s0, sd⟩
      rw [take_all (l := t) (by omega)] at sd
      exact ⟨_, rfl, q d _ s0 hd sd⟩
end
end WayP
/-! can_be_undone, step_back -/
namespace WayP
open PySem PySem.Spec PyProof.Rows L2 WayR Way
/-- a value is told and then locked (known, read, never written) -/
def tLk (t : TE) : TE := fun σ H Q => t σ H fun x H1 => ∃ d u, x = .ref d ∧ H1 d = some u ∧ Mut (some u) ∧ ∀ od, Q x (upd H1 d (.frz od u))
theorem pe_lk {X : Cx} {e : Expr} {t : TE} (h : PE X e t) : PE X e (tLk t) := by
  refine ⟨fun pins s σ H Q I hw => thn (h.run pins s σ H _ I hw) fun v s1 ⟨x, H1, I1, r, d, u, ex, hd, mu, q⟩ => ?_⟩
  obtain ⟨od, I2⟩ := I1.lock hd mu
  exact ⟨x, _, I2, r, q od⟩
section
variable {P : Program} {w : World} {K : PySem.W.Frag} {mg : Str → Option Value} {base : Heap} {cW cE cN hA h0 h1 h2 h3 : Addr}
/-! ### deep data: lists of pairs -/
abbrev pP (q : Int × Int) : PyData := .tuple [.int q.1, .int q.2]
theorem depth_pairs : ∀ l : List (Int × Int), PyData.depthAll (l.map pP) ≤ 1
  | [] => Nat.zero_le _
  | q :: l => by
    show max (PyData.depth (pP q)) (PyData.depthAll (l.map pP)) ≤ 1
    have : PyData.depth (pP q) ≤ 1 := by
      show max 0 (max 0 0) + 1 ≤ 1
      decide
    have := depth_pairs l
    omega
theorem lay_pairs : ∀ l : List (Int × Int), PyData.canLayAll0 (l.map pP) = true
  | [] => rfl
  | q :: l => by
    show (PyData.canLay0 (pP q) && PyData.canLayAll0 (l.map pP)) = true
    rw [lay_pairs l]
    rfl
abbrev lP (l : List (Int × Int)) : PyData := .list (l.map pP)
theorem shaped_pairs (l : List (Int × Int)) : SeqAt.shaped (lP l) = true := by
  unfold SeqAt.shaped
  have h1 : (lP l).canLay0 = true := lay_pairs l
  have h2 : (lP l).depth ≤ 64 := by
    show PyData.depthAll (l.map pP) + 1 ≤ 64
    have := depth_pairs l
    omega
  rw [h1, decide_eq_true h2]
  rfl
theorem depth_lists : ∀ l : List (List (Int × Int)), PyData.depthAll (l.map lP) ≤ 2
  | [] => Nat.zero_le _
  | q :: l => by
    show max (PyData.depth (lP q)) (PyData.depthAll (l.map lP)) ≤ 2
    have : PyData.depth (lP q) ≤ 2 := by
      show PyData.depthAll (q.map pP) + 1 ≤ 2
      have := depth_pairs q
      omega
    have := depth_lists l
    omega
theorem lay_lists : ∀ l : List (List (Int × Int)), PyData.canLayAll0 (l.map lP) = true
  | [] => rfl
  | q :: l => by
    show (PyData.canLayAll0 (q.map pP) && PyData.canLayAll0 (l.map lP)) = true
    rw [lay_lists l, lay_pairs q]
    rfl
theorem shaped_lists (l : List (List (Int × Int))) : SeqAt.shaped (.list (l.map lP)) = true := by
  unfold SeqAt.shaped
  have h1 : (PyData.list (l.map lP)).canLay0 = true := lay_lists l
  have h2 : (PyData.list (l.map lP)).depth ≤ 64 := by
    show PyData.depthAll (l.map lP) + 1 ≤ 64
    have := depth_lists l
    omega
  rw [h1, decide_eq_true h2]
  rfl
theorem dp_pairs {H : Hp} : ∀ {l : List (Int × Int)} {xs : List V}, DaAll H xs (l.map pD) → DpAll K H xs (l.map pP)
  | [], _, .nil => .nil
  | q :: l, _, .cons h a => by
    obtain ⟨b, rfl, hb⟩ := h.ints
    exact .cons (.tup (SqT.of hb) (.cons (.int _) (.cons (.int _) .nil))) (dp_pairs a)
/-- the lists of some pairs -/
inductive Lists (H : Hp) : List V → List (List (Int × Int)) → Prop
  | nil : Lists H [] []
  | cons {a : Addr} {xs vs : List V} {l : List (Int × Int)} {ls : List (List (Int × Int))} : H a = some (.lst xs) → DaAll H xs (l.map pD) → Lists H vs ls → Lists H (.ref a :: vs) (l :: ls)
theorem Lists.dp {H : Hp} : ∀ {vs : List V} {ls : List (List (Int × Int))}, Lists H vs ls → DpAll K H vs (ls.map lP)
  | _, _, .nil => .nil
  | _, _, .cons h a r => .cons (.lst (SqL.of h) (dp_pairs a)) (Lists.dp r)
theorem Lists.snoc {H : Hp} {a : Addr} {xs : List V} {l : List (Int × Int)} (h : H a = some (.lst xs)) (d : DaAll H xs (l.map pD)) : ∀ {vs : List V} {ls : List (List (Int × Int))}, Lists H vs ls → Lists H (vs ++ [.ref a]) (ls ++ [l])
  | _, _, .nil => .cons h d .nil
  | _, _, .cons h' a' r => .cons h' a' (Lists.snoc h d r)
theorem Lists.lk {H H' : Hp} (t : TK H H') (k : LK H H') : ∀ {vs : List V} {ls : List (List (Int × Int))}, Lists H vs ls → Lists H' vs ls
  | _, _, .nil => .nil
  | _, _, .cons h a r => .cons (k _ _ h) (a.tk t) (Lists.lk t k r)
theorem Lists.length {H : Hp} : ∀ {vs : List V} {ls : List (List (Int × Int))}, Lists H vs ls → vs.length = ls.length
  | _, _, .nil => rfl
  | _, _, .cons _ _ r => congrArg Nat.succ (Lists.length r)
/-- an item of a dict's list stands under its key -/
theorem valV_item {κ : Type} [DecidableEq κ] {kvs : List (κ × V)} {k : κ} {v : V} {i : Nat} (hn : (kvs.map (·.1)).Nodup) (h : kvs[i]? = some (k, v)) : valV kvs k = some v := by
  induction kvs generalizing i with
  | nil => simp at h
  | cons p r ih =>
    have hn' : (p.1 :: r.map (·.1)).Nodup := hn
    obtain ⟨n1, n2⟩ := List.nodup_cons.mp hn'
    cases i with
    | zero =>
      have e : p = (k, v) := Option.some.inj h
      rw [e]
      exact valV_pos rfl
    | succ i =>
      have h' : r[i]? = some (k, v) := h
      have ne : ¬ p.1 = k := fun e => n1 (e ▸ List.mem_map.mpr ⟨(k, v), List.mem_of_getElem? h', rfl⟩)
      rw [valV_neg ne]
      exact ih n2 h'
theorem valV_at {κ : Type} [DecidableEq κ] {kvs : List (κ × V)} {k : κ} {v : V} (h : valV kvs k = some v) : ∃ i : Nat, kvs[i]? = some (k, v) := by
  induction kvs with
  | nil => cases h
  | cons p r ih =>
    by_cases e : p.1 = k
    · rw [valV_pos e] at h
      cases Option.some.inj h
      exact ⟨0, by rw [← e]; rfl⟩
    · rw [valV_neg e] at h
      obtain ⟨i, hi⟩ := ih h
      exact ⟨i + 1, hi⟩

/-! ### can_be_undone -/
def spCan : Sp := fun vs H Q _ => ∃ (x : V) (t : Tab) (n : Nat), vs = [x] ∧ Da H x (tabD t) ∧ TabOk t n ∧ ∀ H', Same H H' → Q (.bl (decide (keys t).Nodup)) H'
theorem ok_can_be_undone (T : Txt K mg cW cE cN hA h0 h1 h2 h3) : C8.Cal P w K mg base 5 "can_be_undone" spCan [] := by
  refine cal_of T.d_can_be_undone sc_can_be_undone (fun vs H Q E h => ?_) (fun f cdv A outer s H vs Q E hr h => ?_)
  · obtain ⟨x, t, n, rfl, _⟩ := h
    rfl
  · obtain ⟨x, t, n, rfl, hx, okt, q⟩ := h
    have hu := hu_of hr
    refine ⟨_, pss_cons (ps_expr (C8.pe_c (ok_need_table T) hr (by decide) rfl (pa_cons (pv 0) pa_nil)))
      (pss_one (ps_ret (pe_cmpR (op_eqD hr.units) (pe_lc (own := [("one", 1)]) (g := gName 1) rfl sc_can_be_undone.nd (pi_valuesT (pe_lk (C8.pe_c (ok_sources_in T) hr (by decide) rfl (pa_cons (pv 0) pa_nil)))) (blkOk_by (own := [("one", 1)]) (N := nm_can_be_undone) (sc := defScope s_can_be_undone) (by decide +kernel)) (fun _ _ _ _ _ => pg_name (i := 1) sc_can_be_undone.nd rfl (Or.inl rfl)) (fun _ _ _ _ _ => pts_one (pt_cmpR op_gt (pe_callB (r := rLenQ K) call_len_seq (by rfl) T.zlen PySem.boot_len (pa_cons (pv 1) pa_nil)) (pe_int) (nomark _))) (fun _ _ _ _ _ => (pv 1))) (pe_lst pa_nil) (nomark _)))), ?_⟩
    refine ⟨_, rfl, x, t, n, rfl, hx, okt, fun H1 s1 => ?_⟩
    refine ⟨_, rfl, x, t, n, rfl, hx.tk (TK.of s1), okt, fun d H2 s2 hd1 sd => ?_⟩
    have hd0 : H d = none := s1.free hd1
    obtain ⟨kvs, hdd, hk, hkl⟩ := sd
    have c60 := cells_len okt
    refine ⟨d, _, rfl, hdd, trivial, fun od => ?_⟩
    have s3 : Same H (upd H2 d (.frz od (.dT kvs))) := Same.put (s1.trans s2) hd0
    have k3 := hk.lk (TK.at (u := .frz od (.dT kvs)) hdd fun _ z => by cases z) (LK.at hdd fun _ z => by cases z)
    have hd3 : upd H2 d (.frz od (.dT kvs)) d = some (.frz od (.dT kvs)) := upd_same
    generalize upd H2 d (.frz od (.dT kvs)) = H3 at s3 k3 hd3
    refine ⟨d, od, kvs, rfl, hd3, fun D hD => ?_⟩
    refine lc_it walk_valuesT (fun i H' => Same H3 H' ∧ ∃ acc ls, H' D = some (.lst acc) ∧ Lists H3 acc ls ∧ acc.length ≤ i ∧ (ls = [] ↔ ∀ (j : Nat) (k : List Key) (l : Addr) (xs : List V), j < i → kvs[j]? = some (k, .ref l) → H3 l = some (.lst xs) → xs.length ≤ 1))
      ⟨Same.new hD, [], [], upd_same, .nil, Nat.le_refl _, ⟨fun _ j _ _ _ hj => absurd hj (Nat.not_lt_zero _), fun _ => rfl⟩⟩ (fun i H' _ h => h.1 _ _ hd3) ?_ ?_
    · rintro i y H4 H5 hi ⟨s4, acc, ls, hacc, hls, hal, hiff⟩ ⟨rfl, k, hki⟩
      have hv := valV_item k3.nd hki
      obtain ⟨q0, rfl⟩ := k3.ks k (List.mem_map.mpr ⟨(k, y), List.mem_of_getElem? hki, rfl⟩)
      rcases k3.vl q0 with ⟨z, _⟩ | ⟨l, xs, z1, z2, z3, z4⟩
      · rw [hv] at z; cases z
      · rw [hv] at z1
        cases Option.some.inj z1
        refine ⟨rfl, ?_⟩
        refine ⟨_, rfl, _, _, rfl, .inl (SqL.of (s4 _ _ z2)), _, _, rfl, rfl, _, rfl, ?_⟩
        by_cases h1 : (1 : Int) < (xs.length : Int)
        · refine ifT (decide_eq_true h1) ?_
          refine ⟨_, rfl, acc, hacc, big1000 (by omega), ?_⟩
          refine ⟨Same.put s4 hD, _, ls ++ [srcsOf (cells t) q0], upd_same, Lists.snoc z2 z4 hls, by rw [List.length_append]; exact Nat.succ_le_succ hal, ?_⟩
          constructor
          · intro e
            simp at e
          · intro hall
            have := hall i (kk q0) l xs (Nat.lt_succ_self i) hki z2
            omega
        · refine ifF (decide_eq_false h1) ?_
          refine ⟨s4, acc, ls, hacc, hls, Nat.le_succ_of_le hal, hiff.trans ⟨fun h j k l' xs' hj hkj hl' => ?_, fun h j k l' xs' hj => h j k l' xs' (Nat.lt_succ_of_lt hj)⟩⟩
          by_cases e : j < i
          · exact h j k l' xs' e hkj hl'
          · obtain rfl : j = i := by omega
            rw [hki] at hkj
            cases Option.some.inj hkj
            rw [z2] at hl'
            cases Option.some.inj hl'
            omega
    · rintro H4 ⟨s4, acc, ls, hacc, hls, hal, hiff⟩
      refine ⟨Nat.zero_le _, fun p hp => ?_⟩
      have hls' := (hls.lk (TK.of s4) (LK.of s4)).lk (TK.new (u := .lst []) hp) (LK.of (Same.new (u := .lst []) hp))
      refine ⟨.list (ls.map lP), .list [], .lst (SqL.of (upk hp hacc)) hls'.dp, .lst (SqL.of upd_same) .nil, shaped_lists ls, by decide, ?_⟩
      have e : PyData.eqv (.list (ls.map lP)) (.list []) = decide (keys t).Nodup := by
        have g : ls = [] ↔ (keys t).Nodup := by
          rw [hiff, good_iff]
          constructor
          · intro h k
            rcases k3.vl k with ⟨_, z⟩ | ⟨l, xs, z1, z2, z3, z4⟩
            · rw [z]; exact Nat.zero_le _
            · obtain ⟨i, hi⟩ := valV_at z1
              have := h i _ l xs (List.getElem?_eq_some_iff.mp hi).1 hi z2
              rw [z4.length, List.length_map] at this
              exact this
          · intro h j k l xs hj hkj hl
            have hv := valV_item k3.nd hkj
            obtain ⟨q0, rfl⟩ := k3.ks k (List.mem_map.mpr ⟨(k, .ref l), List.mem_of_getElem? hkj, rfl⟩)
            rcases k3.vl q0 with ⟨z, _⟩ | ⟨l', xs', z1, z2, z3, z4⟩
            · rw [hv] at z; cases z
            · rw [hv] at z1
              cases Option.some.inj z1
              rw [z2] at hl
              cases Option.some.inj hl
              rw [z4.length, List.length_map]
              exact h q0
        by_cases hn : (keys t).Nodup
        · rw [g.mpr hn, decide_eq_true hn]
          rfl
        · rw [decide_eq_false hn]
          cases ls with
          | nil => exact absurd (g.mp rfl) hn
          | cons a b => rfl
      rw [e]
      exact q _ ((s3.trans s4).trans (Same.new hp))
end
end WayP
/-! step_back -/
namespace WayP
open PySem PySem.Spec PyProof.Rows L2 WayR Way
section
variable {P : Program} {w : World} {K : PySem.W.Frag} {mg : Str → Option Value} {base : Heap} {cW cE cN hA h0 h1 h2 h3 : Addr}
/-! ### step_back -/
theorem bwd_one {t : Tab} {w : Wk} {q : Int × Int} (h : srcs t (w.s, w.f (pre w)) = [q]) : bwd t w = some (backBy t w q) := by
  unfold bwd
  rw [h]
theorem bwd_not {t : Tab} {w : Wk} (h : (srcs t (w.s, w.f (pre w))).length ≠ 1) : bwd t w = none := by
  unfold bwd
  split
  · rename_i e
    rw [e] at h
    exact absurd rfl h
  · rfl
def spStepBack : Sp := fun vs H Q _ => ∃ (tv wv : V) (sd d : Addr) (t : Tab) (w : Wk) (m n : Nat) (B : Int), vs = [tv, .ref sd, .ref d, wv] ∧ Da H tv (tabD t) ∧ TabOk t n ∧ SrcD H sd (cells t) ∧ SqD H d w.f m ∧ m < 4000 ∧ Da H wv (wkD w.x w.y w.h w.s) ∧ Ok t n B w ∧
  (bwd t w = none → ∀ H', Same H H' → Q .non H') ∧ ∀ w', bwd t w = some w' → ∀ v H', Kp d H H' → Da H' v (wkD w'.x w'.y w'.h w'.s) → SqD H' d w'.f (m + 1) → Q v H'
theorem ok_step_back (T : Txt K mg cW cE cN hA h0 h1 h2 h3) : C8.Cal P w K mg base 1 "step_back" spStepBack [] := by
  refine cal_of T.d_step_back sc_step_back (fun vs H Q E h => ?_) (fun f cdv A outer s H vs Q E hr h => ?_)
  · obtain ⟨tv, wv, sd, d, t, w, m, n, B, rfl, _⟩ := h
    rfl
  · obtain ⟨tv, wv, sd, d, t, w, m, n, B, rfl, ht, okt, ⟨ks, hsd, hsk, hsl⟩, ⟨kvs, hd, hk, hl⟩, hm, hw, okw, q0, q1⟩ := h
    have hu := hu_of hr
    refine ⟨_, pss_cons (ps_asg (pv 3) (pg_tup rfl (pgs_cons (pg_name (i := 4) sc_step_back.nd rfl (Or.inl rfl)) (pgs_cons (pg_name (i := 5) sc_step_back.nd rfl (Or.inl rfl)) (pgs_cons (pg_name (i := 6) sc_step_back.nd rfl (Or.inl rfl)) (pgs_cons (pg_name (i := 7) sc_step_back.nd rfl (Or.inl rfl)) pgs_nil))))))
      (pss_cons (ps_set (i := 8) sc_step_back.nd rfl (Or.inl rfl) (pe_tup (pa_cons (pe_op op_sub (pv 4) (pe_ix ix_tup (pe_ix ix_tup (pe_glob (v := .ref hA) rfl T.cH rfl) (pv 6) (fun _ _ => rfl)) (pe_int) (fun _ _ => rfl))) (pa_cons (pe_op op_sub (pv 5) (pe_ix ix_tup (pe_ix ix_tup (pe_glob (v := .ref hA) rfl T.cH rfl) (pv 6) (fun _ _ => rfl)) (pe_int) (fun _ _ => rfl))) pa_nil))))
      (pss_cons (ps_set (i := 9) sc_step_back.nd rfl (Or.inl rfl) (pe_dget2 hu (pv 1) (pe_tup (pa_cons (pv 7) (pa_cons (pe_dget2 hu (pv 2) (pv 8) (pe_int) ⟨rfl, rfl, rfl, rfl⟩) pa_nil))) (pe_lst pa_nil) ⟨rfl, rfl, rfl, rfl⟩))
      (pss_cons (ps_if (pt_cmpR op_ne (pe_callB call_len_seq (by rfl) T.zlen PySem.boot_len (pa_cons (pv 9) pa_nil)) (pe_int) (nomark _))
        (pss_one (ps_ret (pe_non)))
        pss_nil)
      (pss_cons (ps_asg (pe_ix ix_list (pv 9) (pe_int) (fun _ _ => rfl)) (pg_tup rfl (pgs_cons (pg_name (i := 10) sc_step_back.nd rfl (Or.inl rfl)) (pgs_cons (pg_name (i := 11) sc_step_back.nd rfl (Or.inl rfl)) pgs_nil))))
      (C8.pss_cut (ps_if (PW.pt (pw_and (pt_cmpR op_ne (pv 11) (pe_int) (nomark _)) (pw_and (pt_cmp (pc_dnotin hu (pv 8) (pv 2))) (pw_and1 (pt_cmpR op_eq (pe_callB call_len_dT (by rfl) T.zlen PySem.boot_len (pa_cons (pv 2) pa_nil)) (C8.pe_gc rfl T.cMOST_SQUARES) (nomark _))))))
        (pss_one (ps_never))
        pss_nil)
      (C8.pss_cut (ps_if (pt_cmpR op_eq (pv 11) (pe_int) (nomark _))
        (pss_one (ps_expr (pe_bm PySem.F.plainAttrs_dict PySem.F.slot_dict_pop PySem.F.type_dict_pop (L2.DX.mt_popT hu) (pv 2) (pa_cons (pv 8) (pa_cons (pe_non) pa_nil)))))
        (pss_one (ps_dput hu (pv 2) (pv 8) (pv 11) rfl)))
      (pss_one (ps_ret (pe_op op_catA (pv 8) (pe_tup (pa_cons (pe_op op_mod (pe_op op_sub (pv 6) (pe_ix ix_tup (pe_ix ix_tup (pe_ix ix_tup (pv 0) (pv 10) (fun _ _ => rfl)) (pv 11) (fun _ _ => rfl)) (pe_int) (fun _ _ => rfl))) (pe_int)) (pa_cons (pv 10) pa_nil)))))))))))), ?_⟩
    obtain ⟨b, rfl, hb⟩ := hw.ints
    -- x, y, heading, state = walker
    refine ⟨_, rfl, b, _, rfl, SqT.of hb, rfl, _, _, rfl, _, _, rfl, _, _, rfl, _, _, rfl, rfl, ?_⟩
    obtain ⟨hp', hp1, hp2⟩ := heads T okw.h0 okw.h1
    refine ⟨_, rfl, _, rfl, hA, _, _, _, rfl, rfl, T.sH _, hp1, hp', _, _, _, rfl, rfl, hp2 _, rfl, _, _, rfl, rfl, ?_⟩
    refine ⟨_, rfl, _, rfl, hA, _, _, _, rfl, rfl, T.sH _, hp1, hp', _, _, _, rfl, rfl, hp2 _, rfl, _, _, rfl, rfl, (by show 2 ≤ sizeLine; decide), fun p hp => ?_⟩
    have s1 : Same H (upd H p (.tup [.int (w.x - Way.dx w.h), .int (w.y - Way.dy w.h)])) := Same.new hp
    have hp3 : upd H p (.tup [.int (w.x - Way.dx w.h), .int (w.y - Way.dy w.h)]) p = some (.tup [.int (w.x - Way.dx w.h), .int (w.y - Way.dy w.h)]) := upd_same
    generalize upd H p (.tup [.int (w.x - Way.dx w.h), .int (w.y - Way.dy w.h)]) = H1 at s1 hp3
    -- before
    refine ⟨_, rfl, sd, rfl, .inr ⟨ks, .inl (s1 _ _ hsd)⟩, _, rfl, _, rfl, d, rfl, .inr ⟨kvs, .inl (s1 _ _ hd)⟩, _, rfl, _, .inr ⟨kvs, kk (pre w), p, .inl (s1 _ _ hd), rfl, hp3, rfl⟩, ?_⟩
    rw [hk.getD]
    refine ⟨(by show 2 ≤ sizeLine; decide), fun p2 hq2 => ⟨Nat.zero_le _, fun p4 hq4 => ?_⟩⟩
    have s2 := (s1.trans (Same.new (u := .tup [.int w.s, .int (w.f (pre w))]) hq2)).trans (Same.new (u := .lst []) hq4)
    have s12 := (Same.new (u := .tup [.int w.s, .int (w.f (pre w))]) hq2).trans (Same.new (u := .lst []) hq4)
    have key : upd (upd H1 p2 (.tup [.int w.s, .int (w.f (pre w))])) p4 (.lst []) p2 = some (.tup [.int w.s, .int (w.f (pre w))]) := upk hq4 upd_same
    have l4 : upd (upd H1 p2 (.tup [.int w.s, .int (w.f (pre w))])) p4 (.lst []) p4 = some (.lst []) := upd_same
    generalize upd (upd H1 p2 (.tup [.int w.s, .int (w.f (pre w))])) p4 (.lst []) = H2 at s2 s12 key l4
    refine ⟨_, .inr ⟨ks, kk (w.s, w.f (pre w)), p2, .inl (s2 _ _ hsd), rfl, key, rfl⟩, ?_⟩
    obtain ⟨lx, xs, elx, hlx, hdx⟩ : ∃ (lx : Addr) (xs : List V), (valV ks (kk (w.s, w.f (pre w)))).getD (.ref p4) = .ref lx ∧ H2 lx = some (.lst xs) ∧ DaAll H2 xs ((srcs t (w.s, w.f (pre w))).map pD) := by
      rcases hsk.vl (w.s, w.f (pre w)) with ⟨z1, z2⟩ | ⟨l, zs, z1, z2, z3, z4⟩
      · exact ⟨p4, [], by rw [z1]; rfl, l4, by show DaAll H2 [] ((srcsOf (cells t) _).map pD); rw [z2]; exact .nil⟩
      · exact ⟨l, zs, by rw [z1]; rfl, s2 _ _ z2, z4.tk (TK.of s2)⟩
    rw [elx]
    have hxl : xs.length = (srcs t (w.s, w.f (pre w))).length := by rw [hdx.length, List.length_map]
    -- if len(before) != 1
    refine ⟨_, rfl, lx, xs, rfl, .inl (SqL.of hlx), rfl, _, rfl, ?_⟩
    by_cases h1 : (srcs t (w.s, w.f (pre w))).length = 1
    · refine ifF (by rw [hxl, h1]; rfl) ?_
      obtain ⟨⟨o, c⟩, hone⟩ : ∃ oc, srcs t (w.s, w.f (pre w)) = [oc] := List.length_eq_one_iff.mp h1
      rw [hone] at hdx
      obtain ⟨x0, hx0⟩ : ∃ x0, xs = [x0] := List.length_eq_one_iff.mp (hxl.trans h1)
      rw [hx0] at hdx hlx
      have hx0d : Da H2 x0 (pD (o, c)) := by
        cases hdx with
        | cons h _ => exact h
      obtain ⟨b2, rfl, hb2⟩ := hx0d.ints
      refine ⟨_, rfl, lx, _, _, _, rfl, rfl, SqL.of hlx, rfl, b2, _, rfl, SqT.of hb2, rfl, _, _, rfl, _, _, rfl, rfl, ?_⟩
      have hoc : (o, c) ∈ srcs t (w.s, w.f (pre w)) := by rw [hone]; exact List.mem_singleton.mpr rfl
      obtain ⟨i, j, r, e, ho, hc, e3, e4, e5, e6, e7⟩ := src_ent hoc
      obtain ⟨⟨p0, p1⟩, ⟨t0, t1⟩, ⟨s0, s1'⟩⟩ := ent_ok okt e3 e4
      have eb := bwd_one hone
      have ew : backBy t w (o, c) = ⟨put w.f (pre w) c, (pre w).1, (pre w).2, (w.h - e.2.1) % 4, o⟩ := by
        unfold backBy
        rw [e7]
        rfl
      rw [ew] at eb
      refine ⟨fun σ' H' => σ' = [some tv, some (.ref sd), some (.ref d), some (.ref b), some (.int w.x), some (.int w.y), some (.int w.h), some (.int w.s), some (.ref p), some (.ref lx), some (.int o), some (.int c)] ∧ H' = H2, ?_, ?_⟩
      · refine ⟨_, rfl, rfl, _, rfl, ?_⟩
        by_cases h0 : c = 0
        · refine ifF (by rw [h0]; rfl) ?_
          exact ⟨rfl, rfl⟩
        · refine ifT (by simp [h0]) ?_
          refine ⟨_, rfl, _, rfl, d, _, rfl, .inr ⟨kvs, kk (pre w), p, .inl (s2 _ _ hd), rfl, s12 _ _ hp3, rfl⟩, _, rfl, ?_⟩
          cases hv : valV kvs (kk (pre w)) with
          | some v => exact ⟨rfl, rfl⟩
          | none =>
            refine ⟨_, rfl, d, kvs, rfl, s2 _ _ hd, rfl, _, rfl, ?_⟩
            refine ifF (decide_eq_false fun z => ?_) ⟨rfl, rfl⟩
            injection z with z
            omega
      · rintro σ' H' ⟨rfl, rfl⟩
        have hd' := s2 _ _ hd
        have hpp := s12 _ _ hp3
        refine ⟨fun σ' H3 => σ' = [some tv, some (.ref sd), some (.ref d), some (.ref b), some (.int w.x), some (.int w.y), some (.int w.h), some (.int w.s), some (.ref p), some (.ref lx), some (.int o), some (.int c)] ∧ Kp d H' H3 ∧ SqD H3 d (put w.f (pre w) c) (m + 1), ?_, ?_⟩
        · refine ⟨_, rfl, rfl, _, rfl, ?_⟩
          by_cases h0 : c = 0
          · refine ifT (by rw [h0]; rfl) ?_
            refine ⟨_, rfl, .inr (.inr (.inl ⟨rfl, .inr ⟨kvs, hd'⟩⟩)), _, rfl, d, kvs, kk (pre w), p, .non, rfl, rfl, hd', hpp, fun v hv => ?_, fun hv => ?_⟩
            · refine ⟨rfl, Kp.own Kp.refl, _, upd_same, ?_, ?_⟩
              · rw [h0]
                exact hk.drop _
              · exact Nat.le_trans (dropK_le _ _) (Nat.le_succ_of_le hl)
            · refine ⟨rfl, Kp.refl, kvs, hd', ?_, Nat.le_succ_of_le hl⟩
              rw [h0, hk.absent hv]
              exact hk
          · refine ifF (by simp [h0]) ?_
            refine ⟨_, rfl, _, rfl, _, rfl, d, _, rfl, .inr ⟨kvs, kk (pre w), p, hd', rfl, hpp, big1000 (by omega), rfl⟩, ?_⟩
            refine ⟨rfl, Kp.own Kp.refl, _, upd_same, hk.put _ _, ?_⟩
            exact Nat.le_trans (length_putK _ _ _) (Nat.succ_le_succ hl)
        · rintro σ' H3 ⟨rfl, k3, hd3⟩
          have tk3 : TK H' H3 := TK.kp k3 hd' fun _ z => by cases z
          have t2 : TK H H3 := (TK.of s2).trans tk3
          obtain ⟨a, xs', rfl, ha, hlen, hget, _⟩ := (ht.tk t2).map
          obtain ⟨x1, hx1, hdr⟩ := hget i r e3
          obtain ⟨b3, ys, rfl, hb3, _, hget2, _⟩ := hdr.map
          obtain ⟨u, hu', hde⟩ := hget2 j _ e4
          obtain ⟨b4, rfl, hb4⟩ := hde.ints
          refine ⟨_, rfl, _, rfl, _, rfl, _, rfl, a, _, _, _, rfl, rfl, SqT.of ha, (by rw [ho]; exact atI_nat hx1), _, rfl, b3, _, _, _, rfl, rfl, SqT.of hb3, (by rw [hc]; exact atI_nat hu'), b4, _, _, _, rfl, rfl, SqT.of hb4, rfl, _, _, rfl, rfl, _, _, rfl, rfl, (by show (0 : Int) < 4; decide), _, rfl, (by show 2 ≤ sizeLine; decide), fun z hz => ?_⟩
          refine ⟨p, z, _, _, rfl, rfl, SqT.of (upk hz (tk3 _ _ hpp)), SqT.of upd_same, (by show 4 ≤ sizeLine; decide), (fun z => by cases z), (fun _ z => by cases z), fun _ _ y hy => ?_⟩
          refine q1 _ eb (.ref y) _ ((((Kp.of s2).trans k3).new hz).new hy) (Da.of_ints (ns := [_, _, _, _]) upd_same) ?_
          exact (hd3.same (Same.new hz)).same (Same.new hy)
    · refine ifT ?_ ?_
      · have : ¬ (V.int ((xs.length : Nat) : Int) = V.int 1) := fun z => by
          injection z with z
          exact h1 (by omega)
        simp only [decide_eq_false this]
        rfl
      · exact q0 (bwd_not h1) _ s2
end
end WayP
/-! back -/
namespace WayP
open PySem PySem.Spec PyProof.Rows L2 WayR Way
section
variable {P : Program} {w : World} {K : PySem.W.Frag} {mg : Str → Option Value} {base : Heap} {cW cE cN hA h0 h1 h2 h3 : Addr}
theorem bwd_ok {t : Tab} {n : Nat} {B : Int} {w w' : Wk} (T : TabOk t n) (W : Ok t n B w) (h : bwd t w = some w') : Ok t n (B + 1) w' := by
  have one : ∃ oc, srcs t (w.s, w.f (pre w)) = [oc] ∧ backBy t w oc = w' := by
    unfold bwd at h
    split at h
    · rename_i oc e
      exact ⟨oc, e, Option.some.inj h⟩
    · cases h
  obtain ⟨⟨o, c⟩, hs, rfl⟩ := one
  have hoc : (o, c) ∈ srcs t (w.s, w.f (pre w)) := by rw [hs]; exact List.mem_singleton.mpr rfl
  obtain ⟨i, j, r, e, ho, hc, e3, e4, e5, e6, e7⟩ := src_ent hoc
  have rl : r.length = n := T.rows r (List.mem_of_getElem? e3)
  have il := (List.getElem?_eq_some_iff.mp e3).1
  have jl := (List.getElem?_eq_some_iff.mp e4).1
  have x := dx_le w.h
  have y := dy_le w.h
  have := W.x0
  have := W.x1
  have := W.y0
  have := W.y1
  refine ⟨by show 0 ≤ (w.h - _) % 4; omega, by show (w.h - _) % 4 ≤ 3; omega, by show 0 ≤ o; omega, by show o < _; omega, by show -(B + 1) ≤ w.x - dx w.h; omega, by show w.x - dx w.h ≤ B + 1; omega, by show -(B + 1) ≤ w.y - dy w.h; omega, by show w.y - dy w.h ≤ B + 1; omega, fun q => ?_, fun q => ?_, fun q hq => ?_⟩
  · show 0 ≤ put w.f (pre w) c q
    by_cases h : q = pre w
    · rw [h, put_same]; omega
    · rw [put_ne h]; exact W.f0 q
  · show put w.f (pre w) c q < (n : Int)
    by_cases h : q = pre w
    · rw [h, put_same]; omega
    · rw [put_ne h]; exact W.f1 q
  · by_cases h : q = pre w
    · rw [h]
      exact ⟨⟨by show -(B + 1) ≤ w.x - dx w.h; omega, by show w.x - dx w.h ≤ B + 1; omega⟩, ⟨by show -(B + 1) ≤ w.y - dy w.h; omega, by show w.y - dy w.h ≤ B + 1; omega⟩⟩
    · have hq' : put w.f (pre w) c q ≠ 0 := hq
      rw [put_ne h] at hq'
      obtain ⟨⟨p1, p2⟩, ⟨p3, p4⟩⟩ := W.fb q hq'
      exact ⟨⟨by omega, by omega⟩, ⟨by omega, by omega⟩⟩
/-- a def that may let an exception out -/
structure CalX (P : Program) (w : World) (K : PySem.W.Frag) (mg : Str → Option Value) (base : Heap) (k : Nat) (x : Str) (sp : Sp) : Prop where
  ex : ∃ (f : Addr) (fd : FuncData) (ps : List Str), FnOk P w K mg base (L2.CX P w) k f fd ps sp ∧ mg x = some (.ref f) ∧ PySem.W.keepIn K (.ref f) = true ∧ Binds K fd ps []
theorem calX_of {x : Str} {st : Stmt} {N ps : List Str} {k : Nat} {sp : Sp} (B : DefB K mg x st ps) (S : FnScope N ps (defScope st)) (len : ∀ vs H Q E, sp vs H Q E → vs.length = ps.length)
    (hbody : ∀ (f : Addr) (cdv : Value) (A : Around) (outer : List Env) (s : Shared) (H : Hp) (vs : List V) (Q : VK) (E : XK), Room k (A.deeper (envOfC x (defScope st) s.heap.objs.size f cdv)) → sp vs H Q E →
      ∃ t, PSs (cxOf (L2.CX P w) P w K mg base N x (defScope st) f cdv A outer s H E) (defBody st) t ∧ t { nx := fun _ H' => Q .non H', rt := Q } (start N vs) H) : CalX P w K mg base (k + 1) x sp := by
  obtain ⟨f, fd, ⟨oc, od, dV, kV, doc, pm, an, cdv, ct, osl, rfl, lk, hcd⟩, kp, hm, b⟩ := B.ex
  exact ⟨f, _, ps, fn_of lk hcd S len fun A outer s H vs Q E hr hsp => hbody f cdv A outer s H vs Q E hr hsp, hm, kp, b⟩
theorem pe_cX {X : Cx} {k j : Nat} {x : Str} {sp : Sp} {p pos : Pos} {e : Expr} {es : List Expr} {t : TA} {W : WX} (c : CalX X.prog X.w X.K X.mg X.base k x sp) (hr : Room j X.A) (hk : k ≤ j) (hg : Gl X x) (tk : Takes X W) (ha : PA X (e :: es) t)
    (hdb : (x == ("__debug__" : Str)) = false := by decide) (he : starEach (e :: es) X.env = (false, eval e X.env) :: starEach es X.env := by rfl) (hpl : (backTo pos (starEach es X.env)).any (·.1) = false := by rfl) :
    PE X (.Call (.Name x p) (e :: es) [] pos) (tCallS sp (WE W) t) := by
  obtain ⟨f, fd, ps, F, hm, kp, b⟩ := c.ex
  exact pe_callS F (hr.mono hk) hg hm kp b (fun σ => passAt tk σ) ha hdb he hpl
/-! ### back -/
def spBack (cN : Addr) : Sp := fun vs H Q E => ∃ (tv gv uv : V) (t : Tab) (n M : Nat) (F : List Sq) (x y h s : Int), vs = [tv, gv, uv, .int (M : Int)] ∧ Da H tv (tabD t) ∧ TabOk t n ∧ Da H gv (floD F) ∧ FloOk F n Bg ∧ Da H uv (wkD x y h s) ∧ WkOk x y h s t Bg ∧ F.length + M < 4000 ∧ M ≤ 100000 ∧
  (¬ (keys t).Nodup → ∀ H', Same H H' → E (.ref cN) none H') ∧
  ((keys t).Nodup → bwdN t M ⟨sqF F, x, y, h, s⟩ = none → ∀ H', Same H H' → E (.ref cN) none H') ∧
  ∀ w', (keys t).Nodup → bwdN t M ⟨sqF F, x, y, h, s⟩ = some w' → ∀ v G H', Same H H' → Da H' v (.tup [floD G, wkD w'.x w'.y w'.h w'.s]) → IsFloor G w'.f → Q v H'
theorem ok_back (T : Txt K mg cW cE cN hA h0 h1 h2 h3) : CalX P w K mg base 7 "back" (spBack cN) := by
  refine calX_of T.d_back sc_back (fun vs H Q E h => ?_) (fun f cdv A outer s H vs Q E hr h => ?_)
  · obtain ⟨tv, gv, uv, t, n, M, F, x, y, h, s, rfl, _⟩ := h
    rfl
  · obtain ⟨tv, gv, uv, t, n, M, F, x, y, h, s, rfl, hv, okt, hg, okf, hw, okw, hM, hM2, q1, q2, q3⟩ := h
    have hu := hu_of hr
    refine ⟨_, pss_cons (ps_expr (C8.pe_c (ok_need_stand T) hr (by decide) rfl (pa_cons (pv 0) (pa_cons (pv 1) (pa_cons (pv 2) pa_nil)))))
      (pss_cons (ps_if (pt_not (pt_val (C8.pe_c (ok_is_in T) hr (by decide) rfl (pa_cons (pv 3) (pa_cons (pe_int) (pa_cons (C8.pe_gc rfl T.cMOST_STEPS) pa_nil))))))
        (pss_one (ps_never))
        pss_nil)
      (pss_cons (ps_if (pt_not (pt_val (C8.pe_c (ok_can_be_undone T) hr (by decide) rfl (pa_cons (pv 0) pa_nil))))
        (pss_one (ps_raise rfl (takes_of rfl rfl rfl rfl) (pmk_own0 PySem.F.excBase_ValueError T.xN T.mN T.kN (raises_own T.bN T.tN) rfl)))
        pss_nil)
      (pss_cons (ps_par (i := 4) (j := 5) rfl sc_back.nd rfl rfl (by decide) rfl rfl (pa_cons (C8.pe_c (ok_sources_in T) hr (by decide) rfl (pa_cons (pv 0) pa_nil)) (pa_cons (C8.pe_c (ok_squares_of T) hr (by decide) rfl (pa_cons (pv 1) pa_nil)) pa_nil)) (by rfl))
      (pss_cons (ps_for (passes_of rfl) rfl (pi_range1 rfl T.zrange (pa_cons (pv 3) pa_nil)) (pg_name (i := 6) sc_back.nd rfl (Or.inl rfl))
        (pss_cons (ps_set (i := 2) sc_back.nd rfl (Or.inl rfl) (C8.pe_c (ok_step_back T) hr (by decide) rfl (pa_cons (pv 0) (pa_cons (pv 4) (pa_cons (pv 5) (pa_cons (pv 2) pa_nil))))))
        (pss_one (ps_if (pt_cmpR op_isN (pv 2) pe_non (nomark _))
          (pss_one (ps_raise rfl (takes_of rfl rfl rfl rfl) (pmk_own0 PySem.F.excBase_ValueError T.xN T.mN T.kN (raises_own T.bN T.tN) rfl)))
          pss_nil))))
      (pss_one (ps_ret (pe_tup (pa_cons (C8.pe_c (ok_floor_of T) hr (by decide) rfl (pa_cons (pv 5) pa_nil)) (pa_cons (pv 2) pa_nil))))))))), ?_⟩
    refine ⟨_, rfl, _, rfl, _, rfl, tv, gv, uv, t, n, F, x, y, h, s, rfl, hv, okt, hg, okf, hw, okw, fun H1 s1 => ?_⟩
    refine ⟨_, rfl, _, _, _, rfl, by omega, (by show (M : Int) ≤ 100000; omega), true, rfl, ?_⟩
    refine ⟨_, rfl, tv, t, n, rfl, hv.tk (TK.of s1), okt, fun H2 s2 => ⟨_, rfl, ?_⟩⟩
    have s02 := s1.trans s2
    by_cases good : (keys t).Nodup
    · refine ifF (by rw [decide_eq_true good]; rfl) ?_
      refine ⟨_, rfl, tv, t, n, rfl, hv.tk (TK.of s02), okt, fun sd H3 s3 hsd0 hsd => ?_⟩
      have s03 := s02.trans s3
      refine ⟨_, rfl, gv, F, n, Bg, rfl, hg.tk (TK.of s03), okf, fun d H4 s4 hd0 hd => ?_⟩
      have s04 := s03.trans s4
      have hsd4 := hsd.same s4
      have nsd : sd ≠ d := fun e => by
        obtain ⟨kvs, z, _⟩ := hsd
        rw [e, hd0] at z
        cases z
      have d0 : H d = none := s03.free hd0
      refine ⟨_, _, rfl, ?_⟩
      refine ⟨_, rfl, (M : Int), rfl, by omega, by omega, ?_⟩
      rw [Int.toNat_natCast]
      refine for_range (fun i σ H' => ∃ uv' v6 w', σ = [some tv, some gv, some uv', some (.int (M : Int)), some (.ref sd), some (.ref d), v6] ∧ Kp d H H' ∧ Same H H' ∧ SrcD H' sd (cells t) ∧ SqD H' d w'.f (F.length + i) ∧ Da H' uv' (wkD w'.x w'.y w'.h w'.s) ∧ Ok t n (Bg + (i : Int)) w' ∧ bwdN t (M - i) w' = bwdN t M ⟨sqF F, x, y, h, s⟩)
        ⟨uv, _, _, rfl, Kp.of s04, s04, hsd4, hd, hw.tk (TK.of s04), (ok_start okt okf okw).mono (by omega), rfl⟩ ?_ ?_
      · rintro i σ H5 hi ⟨uv', v6, w', rfl, kp, s5, hsd5, hd5, hw5, okw', eb⟩
        refine ⟨_, rfl, _, rfl, _, rfl, _, rfl, tv, uv', sd, d, t, w', F.length + i, n, _, rfl, hv.tk (TK.of s5), okt, hsd5, hd5, by omega, hw5, okw', fun h0 H6 s6 => ?_, fun w2 h2 v H6 k6 hw6 hd6 => ?_⟩
        · refine ⟨_, rfl, rfl, true, rfl, ?_⟩
          refine q2 good ?_ _ (s5.trans s6)
          rw [← eb]
          obtain ⟨j, hj⟩ : ∃ j, M - i = j + 1 := ⟨M - i - 1, by omega⟩
          rw [hj]
          show (bwd t w').bind (bwdN t j) = none
          rw [h0]
          rfl
        · have nn : v ≠ .non := fun e => by rw [e] at hw6; cases hw6
          refine ⟨_, rfl, rfl, _, rfl, ?_⟩
          refine ifF (decide_eq_false nn) ?_
          have s6 : Same H H6 := fun b o e => k6 b o (ne_of_none e d0) (s5 _ _ e)
          refine ⟨v, _, w2, rfl, kp.trans k6, s6, ?_, hd6, hw6, (bwd_ok okt okw' h2).mono (by omega), ?_⟩
          · obtain ⟨kvs, z1, z2, z3⟩ := hsd5
            obtain ⟨kv2, y1, _⟩ := hd5
            have tk : TK H5 H6 := TK.kp k6 y1 fun _ z => by cases z
            have lk : LK H5 H6 := fun b xs e => k6 b _ (ne_of e y1 fun z => by cases z) e
            exact ⟨kvs, k6 _ _ nsd z1, z2.lk tk lk, z3⟩
          · rw [← eb]
            obtain ⟨j, hj⟩ : ∃ j, M - i = j + 1 := ⟨M - i - 1, by omega⟩
            rw [hj, show M - (i + 1) = j by omega]
            show bwdN t j w2 = (bwd t w').bind (bwdN t j)
            rw [h2]
            rfl
      · rintro σ H5 ⟨uv', v6, w', rfl, kp, s5, hsd5, hd5, hw5, okw', eb⟩
        have eb' : bwdN t M ⟨sqF F, x, y, h, s⟩ = some w' := by
          rw [← eb, Nat.sub_self]
          rfl
        refine ⟨_, rfl, d, w'.f, F.length + M, rfl, hd5, by omega, fun u G H6 s6 hG iG _ => ⟨_, rfl, (by show 2 ≤ sizeLine; decide), fun p hp => ?_⟩⟩
        refine q3 w' good eb' (.ref p) G _ ((s5.trans s6).trans (Same.new hp)) ?_ iG
        exact .tup upd_same (.cons (hG.tk (TK.new hp)) (.cons (hw5.tk ((TK.of s6).trans (TK.new hp))) .nil))
    · refine ifT (by rw [decide_eq_false good]; rfl) ?_
      exact q1 good _ s02
end
end WayP
/-! the law's draws: taken, pick, signed, walker, ahead -/
namespace WayP
open PySem PySem.Spec PyProof.Rows L2 WayR Way
section
variable {P : Program} {w : World} {K : PySem.W.Frag} {mg : Str → Option Value} {base : Heap} {cW cE cN hA h0 h1 h2 h3 : Addr}
/-! ### taken -/
def spTaken (K : PySem.W.Frag) : Sp := fun vs H Q _ => ∃ (r sc : Addr) (m : Int), vs = [.ref r, .int m] ∧ Row K sc r H ∧ 0 < m ∧ m < 1073741824 ∧ ∀ x H', 0 ≤ x → x < m → Kp r H H' → Row K sc r H' → Q (.int x) H'
theorem ok__law_taken (T : Txt K mg cW cE cN hA h0 h1 h2 h3) : C8.Cal P w K mg base 1 "_law_taken" (spTaken K) [] := by
  refine cal_of T.d__law_taken sc__law_taken (fun vs H Q E h => ?_) (fun f cdv A outer s H vs Q E hr h => ?_)
  · obtain ⟨r, sc, m, rfl, _⟩ := h
    rfl
  · obtain ⟨r, sc, m, rfl, R, m0, m1, q⟩ := h
    have hu := hu_of hr
    refine ⟨_, pss_cons (ps_if (pt_cmpR op_gt (pe_ix ix_list (pv 0) (pe_int) (fun _ _ => rfl)) (pe_int) (nomark _))
        (pss_cons (ps_set (i := 2) sc__law_taken.nd rfl (Or.inl rfl) (pe_op op_mod (pe_callTy call_int1 (by rfl) T.zint (by decide +kernel) (pa_cons (pe_ix ix_list (pv 0) (pe_int) (fun _ _ => rfl)) pa_nil)) (pv 1)))
        (pss_cons (ps_asg (pe_op op_fdiv (pe_ix ix_list (pv 0) (pe_int) (fun _ _ => rfl)) (pv 1)) (pg_sub (pv 0) (pe_int) set_list))
        (pss_one (ps_ret (pv 2)))))
        pss_nil)
      (pss_cons (ps_asg (pe_op op_add (pe_ix ix_list (pv 0) (pe_int) (fun _ _ => rfl)) (pe_int)) (pg_sub (pv 0) (pe_int) set_list))
      (pss_cons (ps_if (pt_cmpR op_gt (pe_ix ix_list (pv 0) (pe_int) (fun _ _ => rfl)) (pe_callB call_len_seq (by rfl) T.zlen PySem.boot_len (pa_cons (pe_ix ix_list (pv 0) (pe_int) (fun _ _ => rfl)) pa_nil)) (nomark _))
        (pss_cons (ps_asg (pe_op op_mod (pe_callTy call_int1 (by rfl) T.zint (by decide +kernel) (pa_cons (pe_op op_add (pe_op op_mul (pe_ix ix_list (pv 0) (pe_int) (fun _ _ => rfl)) (pe_int)) (pe_int)) pa_nil)) (pe_int)) (pg_sub (pv 0) (pe_int) set_list))
        (pss_one (ps_ret (pe_op op_mod (pe_callTy call_int1 (by rfl) T.zint (by decide +kernel) (pa_cons (pe_op op_fdiv (pe_ix ix_list (pv 0) (pe_int) (fun _ _ => rfl)) (pe_int)) pa_nil)) (pv 1)))))
        pss_nil)
      (pss_cons (ps_set (i := 3) sc__law_taken.nd rfl (Or.inl rfl) (pe_ix ix_list (pe_ix ix_list (pv 0) (pe_int) (fun _ _ => rfl)) (pe_op op_sub (pe_ix ix_list (pv 0) (pe_int) (fun _ _ => rfl)) (pe_int)) (fun _ _ => rfl)))
      (pss_cons (ps_asg (pe_op op_mod (pe_callTy call_int1 (by rfl) T.zint (by decide +kernel) (pa_cons (pe_op op_add (pe_op op_add (pe_op op_mul (pe_ix ix_list (pv 0) (pe_int) (fun _ _ => rfl)) (pe_int)) (pv 3)) (pe_int)) pa_nil)) (pe_int)) (pg_sub (pv 0) (pe_int) set_list))
      (pss_cons (ps_if (pt_cmpR op_ge (pv 3) (pe_op op_pow (pe_int) (pe_int)) (nomark _))
        (pss_one (ps_asg (pe_op op_fdiv (pv 3) (pv 1)) (pg_sub (pv 0) (pe_int) set_list)))
        pss_nil)
      (pss_one (ps_ret (pe_op op_mod (pe_callTy call_int1 (by rfl) T.zint (by decide +kernel) (pa_cons (pv 3) pa_nil)) (pv 1))))))))), ?_⟩
    obtain ⟨i, z, g, hR, hi, hz0, hz1⟩ := R.at_
    refine ⟨_, rfl, r, _, _, _, rfl, rfl, SqL.of hR, rfl, _, _, rfl, rfl, _, rfl, ?_⟩
    by_cases hg : 0 < g
    · refine ifT (decide_eq_true hg) ?_
      refine ⟨_, rfl, r, _, _, _, rfl, rfl, SqL.of hR, rfl, .inl ⟨_, rfl, _, rfl, _, _, rfl, rfl, m0, ?_⟩⟩
      refine ⟨_, rfl, r, _, _, _, rfl, rfl, SqL.of hR, rfl, _, rfl, _, _, rfl, rfl, ⟨m0, m1⟩, _, rfl, r, _, _, _, rfl, rfl, hR, rfl, _, rfl, ?_⟩
      exact q _ _ (Int.emod_nonneg g (by omega)) (Int.emod_lt_of_pos g m0) (Kp.own Kp.refl) (R.kp (Kp.own Kp.refl) (i := i) (s := z) (g := g / m) upd_same hi hz0 hz1)
    · refine ifF (decide_eq_false hg) ?_
      refine ⟨_, rfl, r, _, _, _, rfl, rfl, SqL.of hR, rfl, _, _, rfl, rfl, _, rfl, r, _, _, _, rfl, rfl, hR, rfl, ?_⟩
      have k1 : Kp r H (upd H r (.lst [.ref sc, .int (i + 1), .int z, .int g])) := Kp.own Kp.refl
      have R1 : Row K sc r (upd H r (.lst [.ref sc, .int (i + 1), .int z, .int g])) := R.kp k1 (i := i + 1) (s := z) (g := g) upd_same (by omega) hz0 hz1
      obtain ⟨ns, hns⟩ := R1.sc_
      have hM : (0 : Int) < 2147483647 := by decide
      refine ⟨_, rfl, r, _, _, _, rfl, rfl, SqL.of upd_same, rfl, _, rfl, r, _, _, _, rfl, rfl, SqL.of upd_same, rfl, sc, _, rfl, .inl hns, _, _, rfl, rfl, _, rfl, ?_⟩
      by_cases hi2 : ((ns.map V.int).length : Int) < i + 1
      · refine ifT (decide_eq_true hi2) ?_
        refine ⟨_, rfl, r, _, _, _, rfl, rfl, SqL.of upd_same, rfl, _, _, rfl, rfl, .inr (by decide), _, _, rfl, rfl, .inl ⟨_, rfl, _, _, rfl, rfl, hM, _, rfl, r, _, _, _, rfl, rfl, upd_same, rfl, ?_⟩⟩
        refine ⟨_, rfl, r, _, _, _, rfl, rfl, SqL.of upd_same, rfl, _, _, rfl, rfl, ⟨by show (0 : Int) < 7; decide, by show (7 : Int) < 1073741824; decide⟩, .inl ⟨_, rfl, _, rfl, _, _, rfl, rfl, m0, ?_⟩⟩
        refine q _ _ (Int.emod_nonneg _ (by omega)) (Int.emod_lt_of_pos _ m0) (Kp.own k1) ?_
        exact R.kp (Kp.own k1) (i := i + 1) (s := (z * 48271 + 11) % 2147483647) (g := g) upd_same (by omega) (Int.emod_nonneg _ (by decide)) (Int.emod_lt_of_pos _ hM)
      · refine ifF (decide_eq_false hi2) ?_
        obtain ⟨j, rfl⟩ : ∃ j : Nat, i = (j : Int) := ⟨i.toNat, by omega⟩
        have jl : j < (ns.map V.int).length := by omega
        obtain ⟨c, hc⟩ : ∃ c : Int, (ns.map V.int)[j]? = some (.int c) := by
          rw [List.getElem?_eq_getElem jl, List.getElem_map]
          exact ⟨_, rfl⟩
        have hat : atI (ns.map V.int) ((j : Int) + 1 - 1) = some (.int c) := by
          rw [show (j : Int) + 1 - 1 = (j : Int) by omega]
          exact atI_nat hc
        refine ⟨_, rfl, r, _, _, _, rfl, rfl, SqL.of upd_same, rfl, _, rfl, r, _, _, _, rfl, rfl, SqL.of upd_same, rfl, _, _, rfl, rfl, sc, _, _, _, rfl, rfl, hns, hat, ?_⟩
        refine ⟨_, rfl, r, _, _, _, rfl, rfl, SqL.of upd_same, rfl, _, _, rfl, rfl, .inr (by decide), _, rfl, _, _, rfl, rfl, _, _, rfl, rfl, .inl ⟨_, rfl, _, _, rfl, rfl, hM, _, rfl, r, _, _, _, rfl, rfl, upd_same, rfl, ?_⟩⟩
        have k2 : Kp r H (upd (upd H r (.lst [.ref sc, .int ((j : Int) + 1), .int z, .int g])) r (.lst [.ref sc, .int ((j : Int) + 1), .int ((z * 48271 + c + 11) % 2147483647), .int g])) := Kp.own k1
        refine ⟨_, rfl, _, _, rfl, rfl, ⟨by decide, by decide, by decide⟩, _, _, rfl, rfl, _, rfl, ?_⟩
        by_cases hb : (10 : Int) ^ (18 : Int).toNat ≤ c
        · refine ifT (decide_eq_true hb) ?_
          refine ⟨_, rfl, _, rfl, _, _, rfl, rfl, ⟨m0, m1⟩, _, rfl, r, _, _, _, rfl, rfl, upd_same, rfl, ?_⟩
          refine ⟨_, rfl, .inl ⟨_, rfl, _, rfl, _, _, rfl, rfl, m0, ?_⟩⟩
          refine q _ _ (Int.emod_nonneg _ (by omega)) (Int.emod_lt_of_pos _ m0) (Kp.own k2) ?_
          exact R.kp (Kp.own k2) (i := (j : Int) + 1) (s := (z * 48271 + c + 11) % 2147483647) (g := c / m) upd_same (by omega) (Int.emod_nonneg _ (by decide)) (Int.emod_lt_of_pos _ hM)
        · refine ifF (decide_eq_false hb) ?_
          refine ⟨_, rfl, .inl ⟨_, rfl, _, rfl, _, _, rfl, rfl, m0, ?_⟩⟩
          refine q _ _ (Int.emod_nonneg _ (by omega)) (Int.emod_lt_of_pos _ m0) k2 ?_
          exact R.kp k2 (i := (j : Int) + 1) (s := (z * 48271 + c + 11) % 2147483647) (g := g) upd_same (by omega) (Int.emod_nonneg _ (by decide)) (Int.emod_lt_of_pos _ hM)

/-! ### pick, signed, walker, ahead -/
def spPick (K : PySem.W.Frag) : Sp := fun vs H Q _ => ∃ (r sc l : Addr) (xs : List V), vs = [.ref r, .ref l] ∧ Row K sc r H ∧ H l = some (.lst xs) ∧ l ≠ r ∧ 0 < xs.length ∧ xs.length ≤ 1000 ∧ ∀ (i : Nat) (v : V) H', xs[i]? = some v → Kp r H H' → Row K sc r H' → Q v H'
theorem ok__law_pick (T : Txt K mg cW cE cN hA h0 h1 h2 h3) : C8.Cal P w K mg base 2 "_law_pick" (spPick K) [] := by
  refine cal_of T.d__law_pick sc__law_pick (fun vs H Q E h => ?_) (fun f cdv A outer s H vs Q E hr h => ?_)
  · obtain ⟨r, sc, l, xs, rfl, _⟩ := h
    rfl
  · obtain ⟨r, sc, l, xs, rfl, R, hl, hne, x0, x1, q⟩ := h
    have hu := hu_of hr
    refine ⟨_, pss_one (ps_ret (pe_ix ix_list (pv 1) (C8.pe_c (ok__law_taken T) hr (by decide) rfl (pa_cons (pv 0) (pa_cons (pe_callB call_len_seq (by rfl) T.zlen PySem.boot_len (pa_cons (pv 1) pa_nil)) pa_nil))) (fun _ _ => rfl))), ?_⟩
    refine ⟨_, rfl, _, rfl, _, rfl, l, _, rfl, .inl (SqL.of hl), r, sc, _, rfl, R, by omega, by omega, fun x H' y0 y1 k R' => ?_⟩
    obtain ⟨j, rfl⟩ : ∃ j : Nat, x = (j : Int) := ⟨x.toNat, by omega⟩
    have jl : j < xs.length := by omega
    exact ⟨l, xs, _, xs[j], rfl, rfl, SqL.of (k _ _ hne hl), atI_nat (List.getElem?_eq_getElem jl), q j _ H' (List.getElem?_eq_getElem jl) k R'⟩
def spSigned (K : PySem.W.Frag) : Sp := fun vs H Q _ => ∃ (r sc : Addr) (m : Int), vs = [.ref r, .int m] ∧ Row K sc r H ∧ 0 ≤ m ∧ m ≤ 1000 ∧ ∀ x H', -m ≤ x → x ≤ m → Kp r H H' → Row K sc r H' → Q (.int x) H'
theorem ok__law_signed (T : Txt K mg cW cE cN hA h0 h1 h2 h3) : C8.Cal P w K mg base 2 "_law_signed" (spSigned K) [] := by
  refine cal_of T.d__law_signed sc__law_signed (fun vs H Q E h => ?_) (fun f cdv A outer s H vs Q E hr h => ?_)
  · obtain ⟨r, sc, m, rfl, _⟩ := h
    rfl
  · obtain ⟨r, sc, m, rfl, R, m0, m1, q⟩ := h
    have hu := hu_of hr
    refine ⟨_, pss_one (ps_ret (pe_op op_sub (C8.pe_c (ok__law_taken T) hr (by decide) rfl (pa_cons (pv 0) (pa_cons (pe_op op_add (pe_op op_mul (pe_int) (pv 1)) (pe_int)) pa_nil))) (pv 1))), ?_⟩
    refine ⟨_, rfl, _, rfl, _, _, rfl, rfl, .inl (by decide), _, _, rfl, rfl, r, sc, _, rfl, R, by omega, by omega, fun x H' y0 y1 k R' => ⟨_, rfl, _, _, rfl, rfl, ?_⟩⟩
    exact q _ H' (by omega) (by omega) k R'
theorem WkOk.mono {x y h s : Int} {t : Tab} {B C : Int} (W : WkOk x y h s t B) (hb : B ≤ C) : WkOk x y h s t C := by
  obtain ⟨⟨a1, a2⟩, ⟨b1, b2⟩, c, d⟩ := W
  exact ⟨⟨by omega, by omega⟩, ⟨by omega, by omega⟩, c, d⟩
theorem FloOk.mono {F : List Sq} {n : Nat} {B C : Int} (W : FloOk F n B) (hb : B ≤ C) : FloOk F n C := by
  refine ⟨W.sorted, W.few, fun q hq => ?_⟩
  obtain ⟨⟨a1, a2⟩, ⟨b1, b2⟩, c⟩ := W.ok q hq
  exact ⟨⟨by omega, by omega⟩, ⟨by omega, by omega⟩, c⟩
def spLWalker (K : PySem.W.Frag) : Sp := fun vs H Q _ => ∃ (r sc : Addr) (tv : V) (t : Tab) (n : Nat), vs = [.ref r, tv] ∧ Row K sc r H ∧ Da H tv (tabD t) ∧ TabOk t n ∧ ∀ v x y h s H', WkOk x y h s t 3 → Kp r H H' → Row K sc r H' → Da H' v (wkD x y h s) → Q v H'
theorem ok__law_walker (T : Txt K mg cW cE cN hA h0 h1 h2 h3) : C8.Cal P w K mg base 3 "_law_walker" (spLWalker K) [] := by
  refine cal_of T.d__law_walker sc__law_walker (fun vs H Q E h => ?_) (fun f cdv A outer s H vs Q E hr h => ?_)
  · obtain ⟨r, sc, tv, t, n, rfl, _⟩ := h
    rfl
  · obtain ⟨r, sc, tv, t, n, rfl, R, ht, okt, q⟩ := h
    have hu := hu_of hr
    refine ⟨_, pss_one (ps_ret (pe_tup (pa_cons (C8.pe_c (ok__law_signed T) hr (by decide) rfl (pa_cons (pv 0) (pa_cons (pe_int) pa_nil))) (pa_cons (C8.pe_c (ok__law_signed T) hr (by decide) rfl (pa_cons (pv 0) (pa_cons (pe_int) pa_nil))) (pa_cons (C8.pe_c (ok__law_taken T) hr (by decide) rfl (pa_cons (pv 0) (pa_cons (pe_int) pa_nil))) (pa_cons (C8.pe_c (ok__law_taken T) hr (by decide) rfl (pa_cons (pv 0) (pa_cons (pe_callB call_len_seq (by rfl) T.zlen PySem.boot_len (pa_cons (pv 1) pa_nil)) pa_nil))) pa_nil)))))), ?_⟩
    have s1 := okt.s1
    have s2 := okt.s2
    refine ⟨_, rfl, r, sc, 3, rfl, R, by decide, by decide, fun x H1 x0 x1 k1 R1 => ?_⟩
    refine ⟨_, rfl, r, sc, 3, rfl, R1, by decide, by decide, fun y H2 y0 y1 k2 R2 => ?_⟩
    refine ⟨_, rfl, r, sc, 4, rfl, R2, by decide, by decide, fun h H3 h0 h1 k3 R3 => ?_⟩
    have k03 := (k1.trans k2).trans k3
    obtain ⟨a, xs, rfl, ha, hlen, _⟩ := (ht.tk (R.tk k03)).map
    refine ⟨_, rfl, _, rfl, a, xs, rfl, .inr (SqT.of ha), r, sc, _, rfl, R3, by omega, by omega, fun s H4 s0 s1' k4 R4 => ?_⟩
    refine ⟨(by show 4 ≤ sizeLine; decide), fun p hp => ?_⟩
    exact q (.ref p) x y h s _ ⟨⟨x0, x1⟩, ⟨y0, y1⟩, ⟨h0, by omega⟩, ⟨s0, by omega⟩⟩ ((k03.trans k4).new hp) (R4.same (Same.new hp)) (Da.of_ints (ns := [x, y, h, s]) upd_same)
def spAhead : Sp := fun vs H Q _ => ∃ (a : Addr) (x y h : Int), vs = [.ref a, .int h] ∧ H a = some (.tup [.int x, .int y]) ∧ 0 ≤ h ∧ h ≤ 3 ∧ ∀ p H', Same H H' → H' p = some (.tup [.int (x + dx h), .int (y + dy h)]) → Q (.ref p) H'
theorem axs {h : Int} (a : 0 ≤ h) (b : h ≤ 3) : atI [V.int 0, .int 1, .int 0, .int (-1)] h = some (.int (dx h)) ∧ atI [V.int (-1), .int 0, .int 1, .int 0] h = some (.int (dy h)) := by
  have : h = 0 ∨ h = 1 ∨ h = 2 ∨ h = 3 := by omega
  rcases this with rfl | rfl | rfl | rfl <;> exact ⟨rfl, rfl⟩
theorem ok__law_ahead (T : Txt K mg cW cE cN hA h0 h1 h2 h3) : C8.Cal P w K mg base 1 "_law_ahead" spAhead [] := by
  refine cal_of T.d__law_ahead sc__law_ahead (fun vs H Q E h => ?_) (fun f cdv A outer s H vs Q E hr h => ?_)
  · obtain ⟨a, x, y, h, rfl, _⟩ := h
    rfl
  · obtain ⟨a, x, y, h, rfl, ha, a0, a1, q⟩ := h
    have hu := hu_of hr
    refine ⟨_, pss_one (ps_ret (pe_tup (pa_cons (pe_op op_add (pe_ix ix_tup (pv 0) (pe_int) (fun _ _ => rfl)) (pe_ix ix_list (pe_lst (pa_cons (pe_int) (pa_cons (pe_int) (pa_cons (pe_int) (pa_cons (pe_un un_neg pe_int) pa_nil))))) (pv 1) (fun _ _ => rfl))) (pa_cons (pe_op op_add (pe_ix ix_tup (pv 0) (pe_int) (fun _ _ => rfl)) (pe_ix ix_list (pe_lst (pa_cons (pe_un un_neg pe_int) (pa_cons (pe_int) (pa_cons (pe_int) (pa_cons (pe_int) pa_nil))))) (pv 1) (fun _ _ => rfl))) pa_nil)))), ?_⟩
    obtain ⟨e1, e2⟩ := axs a0 a1
    refine ⟨_, rfl, a, _, _, _, rfl, rfl, SqT.of ha, rfl, _, rfl, (by show 4 ≤ sizeLine; decide), fun p hp => ⟨_, rfl, p, _, _, _, rfl, rfl, SqL.of upd_same, e1, _, _, rfl, rfl, ?_⟩⟩
    refine ⟨_, rfl, a, _, _, _, rfl, rfl, SqT.of (upk hp ha), rfl, _, rfl, (by show 4 ≤ sizeLine; decide), fun p2 hp2 => ⟨_, rfl, p2, _, _, _, rfl, rfl, SqL.of upd_same, e2, _, _, rfl, rfl, (by show 2 ≤ sizeLine; decide), fun p3 hp3 => ?_⟩⟩
    exact q p3 _ (((Same.new hp).trans (Same.new hp2)).trans (Same.new hp3)) upd_same
end
end WayP
/-! the law's tables -/
namespace WayP
open PySem PySem.Spec PyProof.Rows L2 WayR Way
section
variable {P : Program} {w : World} {K : PySem.W.Frag} {mg : Str → Option Value} {base : Heap} {cW cE cN hA h0 h1 h2 h3 : Addr}
/-! ### lists that are being built -/
/-- behind H0 (r the row): l was not there, it holds ds -/
def Bl (H0 : Hp) (r l : Addr) (H : Hp) (ds : List D) : Prop := l ≠ r ∧ H0 l = none ∧ ∃ xs, H l = some (.lst xs) ∧ DaAll H xs ds
theorem Bl.kp {H0 H H' : Hp} {r l sc : Addr} {ds : List D} (b : Bl H0 r l H ds) (R : Row K sc r H) (k : Kp r H H') : Bl H0 r l H' ds := by
  obtain ⟨h1, h2, xs, h3, h4⟩ := b
  exact ⟨h1, h2, xs, k _ _ h1 h3, h4.tk (R.tk k)⟩
theorem Bl.same {H0 H H' : Hp} {r l : Addr} {ds : List D} (b : Bl H0 r l H ds) (s : Same H H') : Bl H0 r l H' ds := by
  obtain ⟨h1, h2, xs, h3, h4⟩ := b
  exact ⟨h1, h2, xs, s _ _ h3, h4.tk (TK.of s)⟩
theorem Bl.len {H0 H : Hp} {r l : Addr} {ds : List D} (b : Bl H0 r l H ds) {xs : List V} (h : H l = some (.lst xs)) : xs.length = ds.length := by
  obtain ⟨_, _, ys, h3, h4⟩ := b
  rw [h] at h3
  cases h3
  exact h4.length
theorem Bl.other {H0 H : Hp} {r l m : Addr} {ds : List D} {xs ys : List V} (b : Bl H0 r l H ds) (hm : H m = some (.lst ys)) (hne : l ≠ m) : Bl H0 r l (upd H m (.lst xs)) ds := by
  obtain ⟨h1, h2, zs, h3, h4⟩ := b
  exact ⟨h1, h2, zs, by rw [upd_ne hne]; exact h3, h4.tk (TK.at hm fun _ z => by cases z)⟩
theorem Bl.push {H0 H : Hp} {r l : Addr} {ds : List D} {d : D} {v : V} {xs : List V} (b : Bl H0 r l H ds) (h : H l = some (.lst xs)) (hv : Da H v d) : Bl H0 r l (upd H l (.lst (xs ++ [v]))) (ds ++ [d]) := by
  obtain ⟨h1, h2, zs, h3, h4⟩ := b
  rw [h] at h3
  cases h3
  have tk : TK H (upd H l (.lst (xs ++ [v]))) := TK.at h fun _ z => by cases z
  exact ⟨h1, h2, _, upd_same, (h4.tk tk).snoc (hv.tk tk)⟩
theorem Bl.new {H0 H : Hp} {r l sc : Addr} (R : Row K sc r H) (k : Kp r H0 H) (hl : H l = none) : Bl H0 r l (upd H l (.lst [])) [] := by
  obtain ⟨xs, e⟩ := R.lst
  exact ⟨ne_of_none e hl |>.symm, k.free e hl, [], upd_same, .nil⟩
/-- rows of a table with a states and n colours -/
def RowsOk (T : Tab) (a n : Nat) : Prop := ∀ r ∈ T, r.length = n ∧ ∀ e : Ent, some e ∈ r → (0 ≤ e.1 ∧ e.1 < (n : Int)) ∧ (0 ≤ e.2.1 ∧ e.2.1 ≤ 3) ∧ (0 ≤ e.2.2 ∧ e.2.2 < (a : Int))
def EntsOk (r : List (Option Ent)) (a n : Nat) : Prop := ∀ e : Ent, some e ∈ r → (0 ≤ e.1 ∧ e.1 < (n : Int)) ∧ (0 ≤ e.2.1 ∧ e.2.1 ≤ 3) ∧ (0 ≤ e.2.2 ∧ e.2.2 < (a : Int))
theorem EntsOk.snoc {r : List (Option Ent)} {a n : Nat} {o : Option Ent} (h : EntsOk r a n) (ho : ∀ e, o = some e → (0 ≤ e.1 ∧ e.1 < (n : Int)) ∧ (0 ≤ e.2.1 ∧ e.2.1 ≤ 3) ∧ (0 ≤ e.2.2 ∧ e.2.2 < (a : Int))) : EntsOk (r ++ [o]) a n := fun e he => by
  rcases List.mem_append.mp he with z | z
  · exact h e z
  · exact ho e (List.mem_singleton.mp z).symm
theorem RowsOk.snoc {T : Tab} {r : List (Option Ent)} {a n : Nat} (h : RowsOk T a n) (hl : r.length = n) (hr : EntsOk r a n) : RowsOk (T ++ [r]) a n := fun q hq => by
  rcases List.mem_append.mp hq with z | z
  · exact h q z
  · rw [List.mem_singleton.mp z]
    exact ⟨hl, hr⟩
def spLTable (K : PySem.W.Frag) : Sp := fun vs H Q _ => ∃ (r sc : Addr), vs = [.ref r] ∧ Row K sc r H ∧ ∀ (v : V) (t : Tab) (n : Nat) (H' : Hp), Way.TabOk t n → t.length ≤ 2 → n ≤ 3 → Kp r H H' → Row K sc r H' → Da H' v (tabD t) → Q v H'
theorem ok__law_table (T : Txt K mg cW cE cN hA h0 h1 h2 h3) : C8.Cal P w K mg base 2 "_law_table" (spLTable K) [] := by
  refine cal_of T.d__law_table sc__law_table (fun vs H Q E h => ?_) (fun f cdv A outer s H vs Q E hr h => ?_)
  · obtain ⟨r, sc, rfl, _⟩ := h
    rfl
  · obtain ⟨r, sc, rfl, R, q⟩ := h
    have hu := hu_of hr
    refine ⟨_, pss_cons (ps_par3 (i := 1) (j := 2) (l := 3) rfl sc__law_table.nd rfl rfl rfl (by decide) (by decide) (by decide) rfl rfl rfl (pa_cons (pe_op op_add (pe_int) (C8.pe_c (ok__law_taken T) hr (by decide) rfl (pa_cons (pv 0) (pa_cons (pe_int) pa_nil)))) (pa_cons (pe_op op_add (pe_int) (C8.pe_c (ok__law_taken T) hr (by decide) rfl (pa_cons (pv 0) (pa_cons (pe_int) pa_nil)))) (pa_cons (C8.pe_c (ok__law_taken T) hr (by decide) rfl (pa_cons (pv 0) (pa_cons (pe_int) pa_nil))) pa_nil))) (by rfl))
      (pss_cons (ps_set (i := 4) sc__law_table.nd rfl (Or.inl rfl) (pe_lst pa_nil))
      (pss_cons (ps_for PassesOwn.never rfl (pi_range1 rfl T.zrange (pa_cons (pv 1) pa_nil)) (pg_name (i := 5) sc__law_table.nd rfl (Or.inl rfl))
        (pss_cons (ps_set (i := 6) sc__law_table.nd rfl (Or.inl rfl) (pe_lst pa_nil))
        (pss_cons (ps_for PassesOwn.never rfl (pi_range1 rfl T.zrange (pa_cons (pv 2) pa_nil)) (pg_name (i := 7) sc__law_table.nd rfl (Or.inl rfl))
          (pss_cons (ps_set (i := 8) sc__law_table.nd rfl (Or.inl rfl) (pe_tup (pa_cons (C8.pe_c (ok__law_taken T) hr (by decide) rfl (pa_cons (pv 0) (pa_cons (pv 2) pa_nil))) (pa_cons (C8.pe_c (ok__law_taken T) hr (by decide) rfl (pa_cons (pv 0) (pa_cons (pe_int) pa_nil))) (pa_cons (C8.pe_c (ok__law_taken T) hr (by decide) rfl (pa_cons (pv 0) (pa_cons (pv 1) pa_nil))) pa_nil)))))
          (pss_one (ps_expr (pe_bm PySem.F.plainAttrs_list PySem.F.slot_list_append PySem.F.type_list_append mt_append (pv 6) (pa_cons (pe_ifExp (PW.pt (pw_and (pt_cmpR op_eq (pv 3) (pe_int) (nomark _)) (pw_and1 (pt_cmpR op_eq (C8.pe_c (ok__law_taken T) hr (by decide) rfl (pa_cons (pv 0) (pa_cons (pe_int) pa_nil))) (pe_int) (nomark _))))) (pe_non) (pv 8)) pa_nil))))))
        (pss_one (ps_expr (pe_bm PySem.F.plainAttrs_list PySem.F.slot_list_append PySem.F.type_list_append mt_append (pv 4) (pa_cons (pe_callTy call_tuple_of (by rfl) T.ztuple (by decide +kernel) (pa_cons (pv 6) pa_nil)) pa_nil)))))))
      (pss_one (ps_ret (pe_callTy call_tuple_of (by rfl) T.ztuple (by decide +kernel) (pa_cons (pv 4) pa_nil)))))), ?_⟩
    refine ⟨_, rfl, r, sc, 2, rfl, R, by decide, by decide, fun x H1 x0 x1 k1 R1 => ⟨_, _, rfl, rfl, ?_⟩⟩
    refine ⟨_, rfl, r, sc, 2, rfl, R1, by decide, by decide, fun y H2 y0 y1 k2 R2 => ⟨_, _, rfl, rfl, ?_⟩⟩
    refine ⟨_, rfl, r, sc, 4, rfl, R2, by decide, by decide, fun z H3 z0 z1 k3 R3 => ⟨_, _, _, rfl, ?_⟩⟩
    obtain ⟨a, ha⟩ : ∃ a : Nat, 1 + x = (a : Int) := ⟨(1 + x).toNat, by omega⟩
    obtain ⟨n, hn⟩ : ∃ n : Nat, 2 + y = (n : Int) := ⟨(2 + y).toNat, by omega⟩
    have a1 : 1 ≤ a := by omega
    have a2 : a ≤ 2 := by omega
    have n1 : 2 ≤ n := by omega
    have n2 : n ≤ 3 := by omega
    have k03 := (k1.trans k2).trans k3
    refine ⟨Nat.zero_le _, fun fd hfd => ?_⟩
    have B0 := Bl.new R3 k03 hfd
    have R4 := R3.same (Same.new (u := .lst []) hfd)
    have k4 := k03.new (u := .lst []) hfd
    refine ⟨_, rfl, 1 + x, rfl, by omega, by omega, ?_⟩
    rw [show (1 + x).toNat = a by omega]
    refine for_range (fun i σ H' => ∃ (v5 v6 v7 v8 : Option V) (T : Tab), σ = [some (.ref r), some (.int (1 + x)), some (.int (2 + y)), some (.int z), some (.ref fd), v5, v6, v7, v8] ∧ Kp r H H' ∧ Row K sc r H' ∧ Bl H r fd H' (T.map rowD) ∧ T.length = i ∧ RowsOk T a n)
      ⟨_, _, _, _, [], rfl, k4, R4, B0, rfl, fun _ h => by cases h⟩ ?_ ?_
    · rintro i σ H5 hi ⟨v5, v6, v7, v8, T, rfl, k5, R5, B5, hT, okT⟩
      refine ⟨Nat.zero_le _, fun ln hln => ?_⟩
      have L0 := Bl.new R5 k5 hln
      have nfl : fd ≠ ln := by
        obtain ⟨_, _, xs, z, _⟩ := B5
        exact ne_of_none z hln
      have B6 := B5.same (Same.new (u := .lst []) hln)
      have R6 := R5.same (Same.new (u := .lst []) hln)
      have k6 := k5.new (u := .lst []) hln
      refine ⟨_, rfl, 2 + y, rfl, by omega, by omega, ?_⟩
      rw [show (2 + y).toNat = n by omega]
      refine for_range (fun j σ H' => ∃ (v7 v8 : Option V) (es : List (Option Ent)), σ = [some (.ref r), some (.int (1 + x)), some (.int (2 + y)), some (.int z), some (.ref fd), some (.int (0 + (i : Int))), some (.ref ln), v7, v8] ∧ Kp r H H' ∧ Row K sc r H' ∧ Bl H r fd H' (T.map rowD) ∧ Bl H r ln H' (es.map entD) ∧ es.length = j ∧ EntsOk es a n)
        ⟨_, _, [], rfl, k6, R6, B6, L0, rfl, fun _ h => by cases h⟩ ?_ ?_
      · rintro j σ H7 hj ⟨v7, v8, es, rfl, k7, R7, B7, L7, hes, okE⟩
        refine ⟨_, rfl, _, rfl, r, sc, _, rfl, R7, by omega, by omega, fun e1 H8 p0 p1 k8 R8 => ?_⟩
        refine ⟨_, rfl, r, sc, 4, rfl, R8, by decide, by decide, fun e2 H9 t0 t1 k9 R9 => ?_⟩
        refine ⟨_, rfl, _, rfl, r, sc, _, rfl, R9, by omega, by omega, fun e3 H10 s0 s1 k10 R10 => ⟨(by show 3 ≤ sizeLine; decide), fun p hp => ?_⟩⟩
        have kA : Kp r H7 H10 := (k8.trans k9).trans k10
        have S := Same.new (u := .tup [.int e1, .int e2, .int e3]) hp
        have hpt : upd H10 p (.tup [.int e1, .int e2, .int e3]) p = some (.tup [.int e1, .int e2, .int e3]) := upd_same
        have B11 := (B7.kp R7 kA).same S
        have L11 := (L7.kp R7 kA).same S
        have R11 := R10.same S
        have k11 := (k7.trans kA).new (u := .tup [.int e1, .int e2, .int e3]) hp
        generalize upd H10 p (.tup [.int e1, .int e2, .int e3]) = H11 at hpt B11 L11 R11 k11
        obtain ⟨_, _, xs, hx, _⟩ := id L11
        have hxl := L11.len hx
        rw [List.length_map] at hxl
        -- the end of a turn
        have fin : ∀ (o : Option Ent) (v : V) (H12 : Hp), Kp r H11 H12 → Row K sc r H12 → Da H12 v (entD o) → (∀ e, o = some e → (0 ≤ e.1 ∧ e.1 < (n : Int)) ∧ (0 ≤ e.2.1 ∧ e.2.1 ≤ 3) ∧ (0 ≤ e.2.2 ∧ e.2.2 < (a : Int))) →
            ∃ (v7' v8' : Option V) (es' : List (Option Ent)), [some (V.ref r), some (.int (1 + x)), some (.int (2 + y)), some (.int z), some (.ref fd), some (.int (0 + (i : Int))), some (.ref ln), some (.int (0 + (j : Int))), some (.ref p)] = [some (V.ref r), some (.int (1 + x)), some (.int (2 + y)), some (.int z), some (.ref fd), some (.int (0 + (i : Int))), some (.ref ln), v7', v8'] ∧ Kp r H (upd H12 ln (.lst (xs ++ [v]))) ∧ Row K sc r (upd H12 ln (.lst (xs ++ [v]))) ∧ Bl H r fd (upd H12 ln (.lst (xs ++ [v]))) (T.map rowD) ∧ Bl H r ln (upd H12 ln (.lst (xs ++ [v]))) (es'.map entD) ∧ es'.length = j + 1 ∧ EntsOk es' a n := by
          intro o v H12 k12 R12 hv ho
          have L12 := L11.kp R11 k12
          have B12 := B11.kp R11 k12
          have hx12 : H12 ln = some (.lst xs) := k12 _ _ L11.1 hx
          refine ⟨_, _, es ++ [o], rfl, (k11.trans k12).put L11.2.1, R.put R12 (k11.trans k12) L11.2.1, B12.other hx12 nfl, ?_, by rw [List.length_append, hes]; rfl, okE.snoc ho⟩
          rw [List.map_append]
          exact L12.push hx12 hv
        have fin2 : ∀ H12, Kp r H11 H12 → Row K sc r H12 → _ := fun H12 k12 R12 => fin (some (e1, e2, e3)) (.ref p) H12 k12 R12 (Da.of_ints (ns := [e1, e2, e3]) (R11.tk k12 _ _ hpt)) (fun e he => by
          cases Option.some.inj he
          exact ⟨⟨p0, by show e1 < (n : Int); omega⟩, ⟨t0, by show e2 ≤ 3; omega⟩, ⟨s0, by show e3 < (a : Int); omega⟩⟩)
        refine ⟨_, rfl, .inl ⟨rfl, _, SqL.of hx⟩, _, rfl, rfl, _, rfl, ?_⟩
        by_cases hz : z = 0
        · refine ifT (by rw [hz]; rfl) ?_
          refine ⟨_, rfl, r, sc, 5, rfl, R11, by decide, by decide, fun u H12 u0 u1 k12 R12 => ⟨rfl, _, rfl, ?_⟩⟩
          by_cases hu0 : u = 0
          · refine ifT (by rw [hu0]; rfl) ?_
            refine ⟨ln, xs, _, rfl, rfl, k12 _ _ L11.1 hx, big1000 (by omega), ?_⟩
            exact fin none .non H12 k12 R12 .non (fun e he => by cases he)
          · refine ifF (by simp [hu0]) ?_
            refine ⟨_, rfl, ln, xs, _, rfl, rfl, k12 _ _ L11.1 hx, big1000 (by omega), ?_⟩
            exact fin2 H12 k12 R12
        · refine ifF (by simp [hz]) ?_
          refine ⟨_, rfl, ln, xs, _, rfl, rfl, hx, big1000 (by omega), ?_⟩
          exact fin2 H11 Kp.refl R11
      · rintro σ H7 ⟨v7, v8, es, rfl, k7, R7, B7, L7, hes, okE⟩
        obtain ⟨_, _, xs, hx, hdx⟩ := id L7
        obtain ⟨_, _, ys, hy, _⟩ := id B7
        have hyl := B7.len hy
        rw [List.length_map] at hyl
        refine ⟨_, rfl, .inl ⟨rfl, _, SqL.of hy⟩, _, rfl, ln, xs, rfl, .inl ⟨SqL.of hx, fun p hp => ?_⟩⟩
        refine ⟨fd, ys, _, rfl, rfl, upk hp hy, big1000 (by omega), ?_⟩
        have S := Same.new (u := .tup xs) hp
        have hrow : Da (upd H7 p (.tup xs)) (.ref p) (rowD es) := .tup upd_same (hdx.tk (TK.of S))
        refine ⟨_, _, _, _, T ++ [es], rfl, (k7.new hp).put B7.2.1, R.put (R7.same S) (k7.new hp) B7.2.1, ?_, by rw [List.length_append, hT]; rfl, okT.snoc hes okE⟩
        rw [List.map_append]
        exact (B7.same S).push (upk hp hy) hrow
    · rintro σ H5 ⟨v5, v6, v7, v8, T, rfl, k5, R5, B5, hT, okT⟩
      obtain ⟨_, _, ys, hy, hdy⟩ := id B5
      refine ⟨_, rfl, fd, ys, rfl, .inl ⟨SqL.of hy, fun p hp => ?_⟩⟩
      have S := Same.new (u := .tup ys) hp
      refine q (.ref p) T n _ ⟨by omega, by omega, n1, by omega, fun r hr => (okT r hr).1, fun r hr e he => ?_⟩ (by omega) n2 (k5.new hp) (R5.same S) (.tup upd_same (hdy.tk (TK.of S)))
      rw [hT]
      exact (okT r hr).2 e he
end
end WayP
/-! the law's undone table -/
namespace WayP
open PySem PySem.Spec PyProof.Rows L2 WayR Way
section
variable {P : Program} {w : World} {K : PySem.W.Frag} {mg : Str → Option Value} {base : Heap} {cW cE cN hA h0 h1 h2 h3 : Addr}
theorem DaAll.erase {H : Hp} : ∀ {vs : List V} {ds : List D} (k : Nat), DaAll H vs ds → DaAll H (vs.eraseIdx k) (ds.eraseIdx k)
  | _, _, _, .nil => .nil
  | _, _, 0, .cons _ a => a
  | _, _, k + 1, .cons h a => .cons h (DaAll.erase k a)
theorem map_erase {α β : Type} (f : α → β) : ∀ (l : List α) (k : Nat), (l.map f).eraseIdx k = (l.eraseIdx k).map f
  | [], _ => rfl
  | _ :: _, 0 => rfl
  | a :: l, k + 1 => congrArg (f a :: ·) (map_erase f l k)
theorem Bl.pop {H0 H : Hp} {r l : Addr} {ds : List D} {xs : List V} (b : Bl H0 r l H ds) (h : H l = some (.lst xs)) (k : Nat) : Bl H0 r l (upd H l (.lst (xs.eraseIdx k))) (ds.eraseIdx k) := by
  obtain ⟨h1, h2, zs, h3, h4⟩ := b
  rw [h] at h3
  cases h3
  have tk : TK H (upd H l (.lst (xs.eraseIdx k))) := TK.at h fun _ z => by cases z
  exact ⟨h1, h2, _, upd_same, (h4.tk tk).erase k⟩
theorem seqIdx {n k : Nat} (h : k < n) : seqIndex? (k : Int) n = some k := by
  have : ixN n (k : Int) = some k := by
    unfold ixN
    rw [if_pos (by omega), if_pos (by omega), Int.toNat_natCast]
  exact (ixN_seq this).1
theorem ok__law_undone_table (T : Txt K mg cW cE cN hA h0 h1 h2 h3) : C8.Cal P w K mg base 2 "_law_undone_table" (spLTable K) [] := by
  refine cal_of T.d__law_undone_table sc__law_undone_table (fun vs H Q E h => ?_) (fun f cdv A outer s H vs Q E hr h => ?_)
  · obtain ⟨r, sc, rfl, _⟩ := h
    rfl
  · obtain ⟨r, sc, rfl, R, q⟩ := h
    have hu := hu_of hr
    refine ⟨_, pss_cons (ps_asg (pe_tup (pa_cons (pe_op op_add (pe_int) (C8.pe_c (ok__law_taken T) hr (by decide) rfl (pa_cons (pv 0) (pa_cons (pe_int) pa_nil)))) (pa_cons (pe_op op_add (pe_int) (C8.pe_c (ok__law_taken T) hr (by decide) rfl (pa_cons (pv 0) (pa_cons (pe_int) pa_nil)))) pa_nil))) (pg_tup rfl (pgs_cons (pg_name (i := 1) sc__law_undone_table.nd rfl (Or.inl rfl)) (pgs_cons (pg_name (i := 2) sc__law_undone_table.nd rfl (Or.inr rfl)) pgs_nil))))
      (pss_cons (ps_par (i := 3) (j := 4) rfl sc__law_undone_table.nd rfl rfl (by decide) rfl rfl (pa_cons (pe_lc (own := [("_law_k", 9)]) (g := gName 9) (tt := tYes) rfl sc__law_undone_table.nd (pi_range1 rfl T.zrange (pa_cons (pe_op op_mul (pv 1) (pv 2)) pa_nil)) (blkOk_by (own := [("_law_k", 9)]) (N := nm__law_undone_table) (sc := defScope s__law_undone_table) (by decide +kernel)) (fun _ _ _ _ _ => pg_name (i := 9) sc__law_undone_table.nd rfl (Or.inl rfl)) (fun _ _ _ _ _ => pts_nil) (fun _ _ _ _ _ => (pe_tup (pa_cons (pe_op op_fdiv (pe_callTy call_int1 (by rfl) T.zint (by decide +kernel) (pa_cons (pv 9) pa_nil)) (pv 2)) (pa_cons (pe_op op_mod (pe_callTy call_int1 (by rfl) T.zint (by decide +kernel) (pa_cons (pv 9) pa_nil)) (pv 2)) pa_nil))))) (pa_cons (pe_lst pa_nil) pa_nil)) (by rfl))
      (pss_cons (ps_for PassesOwn.never rfl (pi_range1 rfl T.zrange (pa_cons (pv 1) pa_nil)) (pg_name (i := 5) sc__law_undone_table.nd rfl (Or.inl rfl))
        (pss_cons (ps_set (i := 6) sc__law_undone_table.nd rfl (Or.inl rfl) (pe_lst pa_nil))
        (pss_cons (ps_for PassesOwn.never rfl (pi_range1 rfl T.zrange (pa_cons (pv 2) pa_nil)) (pg_name (i := 7) sc__law_undone_table.nd rfl (Or.inl rfl))
          (pss_cons (ps_set (i := 8) sc__law_undone_table.nd rfl (Or.inl rfl) (pe_bm PySem.F.plainAttrs_list PySem.F.slot_list_pop PySem.F.type_list_pop mt_popAt (pv 3) (pa_cons (C8.pe_c (ok__law_taken T) hr (by decide) rfl (pa_cons (pv 0) (pa_cons (pe_callB call_len_seq (by rfl) T.zlen PySem.boot_len (pa_cons (pv 3) pa_nil)) pa_nil))) pa_nil)))
          (pss_one (ps_expr (pe_bm PySem.F.plainAttrs_list PySem.F.slot_list_append PySem.F.type_list_append mt_append (pv 6) (pa_cons (pe_tup (pa_cons (pe_ix ix_tup (pv 8) (pe_int) (fun _ _ => rfl)) (pa_cons (C8.pe_c (ok__law_taken T) hr (by decide) rfl (pa_cons (pv 0) (pa_cons (pe_int) pa_nil))) (pa_cons (pe_ix ix_tup (pv 8) (pe_int) (fun _ _ => rfl)) pa_nil)))) pa_nil))))))
        (pss_one (ps_expr (pe_bm PySem.F.plainAttrs_list PySem.F.slot_list_append PySem.F.type_list_append mt_append (pv 4) (pa_cons (pe_callTy call_tuple_of (by rfl) T.ztuple (by decide +kernel) (pa_cons (pv 6) pa_nil)) pa_nil)))))))
      (pss_one (ps_ret (pe_callTy call_tuple_of (by rfl) T.ztuple (by decide +kernel) (pa_cons (pv 4) pa_nil)))))), ?_⟩
    refine ⟨_, rfl, r, sc, 2, rfl, R, by decide, by decide, fun x H1 x0 x1 k1 R1 => ⟨_, _, rfl, rfl, ?_⟩⟩
    refine ⟨_, rfl, r, sc, 2, rfl, R1, by decide, by decide, fun y H2 y0 y1 k2 R2 => ⟨_, _, rfl, rfl, (by show 2 ≤ sizeLine; decide), fun pt hpt => ?_⟩⟩
    have k02 := (k1.trans k2).new (u := .tup [.int (1 + x), .int (2 + y)]) hpt
    have R02 := R2.same (Same.new (u := .tup [.int (1 + x), .int (2 + y)]) hpt)
    obtain ⟨a, ha⟩ : ∃ a : Nat, 1 + x = (a : Int) := ⟨(1 + x).toNat, by omega⟩
    obtain ⟨n, hn⟩ : ∃ n : Nat, 2 + y = (n : Int) := ⟨(2 + y).toNat, by omega⟩
    have a1 : 1 ≤ a := by omega
    have a2 : a ≤ 2 := by omega
    have n1 : 2 ≤ n := by omega
    have n2 : n ≤ 3 := by omega
    have an1 : n ≤ a * n := Nat.le_mul_of_pos_left n a1
    have an2 : a * n ≤ 6 := Nat.mul_le_mul a2 n2
    have han : (1 + x) * (2 + y) = ((a * n : Nat) : Int) := by rw [ha, hn]; simp
    refine ⟨pt, _, rfl, SqT.of upd_same, rfl, _, _, rfl, _, _, rfl, rfl, ?_⟩
    refine ⟨_, rfl, _, rfl, _, _, rfl, rfl, .inl (by omega), _, rfl, (by rw [han]; omega), (by rw [han]; omega), ?_⟩
    rw [han, Int.toNat_natCast]
    intro pd hpd
    have nf : ∀ {l : Addr} {H : Hp} {xs : List V}, H l = some (.lst xs) → ∀ {m : Addr}, H m = none → l ≠ m := fun h _ hm => ne_of_none h hm
    have okp : ∀ j : Nat, j < a * n → (0 ≤ ((0 + (j : Int)) / (2 + y)) ∧ ((0 + (j : Int)) / (2 + y)) < (a : Int)) ∧ (0 ≤ ((0 + (j : Int)) % (2 + y)) ∧ ((0 + (j : Int)) % (2 + y)) < (n : Int)) := fun j hj => by
      refine ⟨⟨Int.ediv_nonneg (by omega) (by omega), ?_⟩, Int.emod_nonneg _ (by omega), ?_⟩
      · rw [hn]
        refine Int.ediv_lt_of_lt_mul (by omega) ?_
        have : ((a * n : Nat) : Int) = (a : Int) * (n : Int) := by simp
        omega
      · rw [← hn]
        exact Int.emod_lt_of_pos _ (by omega)
    refine lc_range (fun j H' => ∃ ps : List (Int × Int), Kp r H H' ∧ Row K sc r H' ∧ Bl H r pd H' (ps.map pD) ∧ ps.length = j ∧ ∀ q ∈ ps, (0 ≤ q.1 ∧ q.1 < (a : Int)) ∧ (0 ≤ q.2 ∧ q.2 < (n : Int)))
      ⟨[], k02.new hpd, R02.same (Same.new hpd), Bl.new R02 k02 hpd, rfl, fun _ h => by cases h⟩ ?_ ?_
    · rintro j H3 hj ⟨ps, k3, R3, B3, hps, okps⟩
      refine ⟨rfl, ?_⟩
      refine ⟨_, rfl, .inl ⟨_, rfl, _, rfl, _, _, rfl, rfl, ⟨by show 0 < 2 + y; omega, by show 2 + y < 1073741824; omega⟩, ?_⟩⟩
      refine ⟨_, rfl, .inl ⟨_, rfl, _, rfl, _, _, rfl, rfl, (by show 0 < 2 + y; omega), (by show 2 ≤ sizeLine; decide), fun p hp => ?_⟩⟩
      have S := Same.new (u := .tup [.int ((0 + (j : Int)) / (2 + y)), .int ((0 + (j : Int)) % (2 + y))]) hp
      have B4 := B3.same S
      obtain ⟨_, _, xs, hx, _⟩ := id B4
      have hxl := B4.len hx
      rw [List.length_map] at hxl
      refine ⟨xs, hx, big1000 (by omega), ps ++ [((0 + (j : Int)) / (2 + y), (0 + (j : Int)) % (2 + y))], ((k3.trans (Kp.of S)).put B4.2.1), R.put (R3.same S) (k3.trans (Kp.of S)) B4.2.1, ?_, by rw [List.length_append, hps]; rfl, fun q hq => ?_⟩
      · rw [List.map_append]
        exact B4.push hx (Da.of_ints (ns := [_, _]) upd_same)
      · rcases List.mem_append.mp hq with z | z
        · exact okps q z
        · rw [List.mem_singleton.mp z]
          exact okp j hj
    · rintro H3 ⟨ps, k3, R3, P3, hps, okps⟩
      refine ⟨Nat.zero_le _, fun fd hfd => ⟨_, _, rfl, ?_⟩⟩
      have npf : pd ≠ fd := by
        obtain ⟨_, _, xs, z, _⟩ := P3
        exact ne_of_none z hfd
      refine ⟨_, rfl, 1 + x, rfl, by omega, by omega, ?_⟩
      rw [show (1 + x).toNat = a by omega]
      refine for_range (fun i σ H' => ∃ (v5 v6 v7 v8 : Option V) (T : Tab) (ps : List (Int × Int)), σ = [some (.ref r), some (.int (1 + x)), some (.int (2 + y)), some (.ref pd), some (.ref fd), v5, v6, v7, v8, none] ∧ Kp r H H' ∧ Row K sc r H' ∧ Bl H r fd H' (T.map rowD) ∧ Bl H r pd H' (ps.map pD) ∧ T.length = i ∧ ps.length = (a - i) * n ∧ RowsOk T a n ∧ ∀ q ∈ ps, (0 ≤ q.1 ∧ q.1 < (a : Int)) ∧ (0 ≤ q.2 ∧ q.2 < (n : Int)))
        ⟨_, _, _, _, [], ps, rfl, k3.new hfd, R3.same (Same.new hfd), Bl.new R3 k3 hfd, P3.same (Same.new hfd), rfl, by rw [hps, Nat.sub_zero], fun _ h => (by cases h), okps⟩ ?_ ?_
      · rintro i σ H5 hi ⟨v5, v6, v7, v8, T, ps, rfl, k5, R5, B5, P5, hT, hpl, okT, okps⟩
        refine ⟨Nat.zero_le _, fun ln hln => ?_⟩
        have L0 := Bl.new R5 k5 hln
        have nfl : fd ≠ ln := by
          obtain ⟨_, _, xs, z, _⟩ := B5
          exact ne_of_none z hln
        have npl : pd ≠ ln := by
          obtain ⟨_, _, xs, z, _⟩ := P5
          exact ne_of_none z hln
        have S5 := Same.new (u := .lst []) hln
        have hrow : (a - i) * n = (a - (i + 1)) * n + n := by
          have : a - i = (a - (i + 1)) + 1 := by omega
          rw [this, Nat.add_mul, Nat.one_mul]
        have hmx : (a - (i + 1)) * n ≤ 6 := Nat.le_trans (Nat.mul_le_mul (by omega : a - (i + 1) ≤ a) (Nat.le_refl n)) an2
        refine ⟨_, rfl, 2 + y, rfl, by omega, by omega, ?_⟩
        rw [show (2 + y).toNat = n by omega]
        refine for_range (fun j σ H' => ∃ (v7 v8 : Option V) (es : List (Option Ent)) (ps : List (Int × Int)), σ = [some (.ref r), some (.int (1 + x)), some (.int (2 + y)), some (.ref pd), some (.ref fd), some (.int (0 + (i : Int))), some (.ref ln), v7, v8, none] ∧ Kp r H H' ∧ Row K sc r H' ∧ Bl H r fd H' (T.map rowD) ∧ Bl H r pd H' (ps.map pD) ∧ Bl H r ln H' (es.map entD) ∧ es.length = j ∧ ps.length + j = (a - i) * n ∧ EntsOk es a n ∧ ∀ q ∈ ps, (0 ≤ q.1 ∧ q.1 < (a : Int)) ∧ (0 ≤ q.2 ∧ q.2 < (n : Int)))
          ⟨_, _, [], ps, rfl, k5.trans (Kp.of S5), R5.same S5, B5.same S5, P5.same S5, L0, rfl, hpl, fun _ h => (by cases h), okps⟩ ?_ ?_
        · rintro j σ H7 hj ⟨v7, v8, es, ps, rfl, k7, R7, B7, P7, L7, hes, hpl, okE, okps⟩
          obtain ⟨_, _, zs, hz, hdz⟩ := id P7
          have hzl := P7.len hz
          rw [List.length_map] at hzl
          refine ⟨_, rfl, .inl ⟨rfl, _, SqL.of hz⟩, _, rfl, _, rfl, pd, zs, rfl, .inl (SqL.of hz), r, sc, _, rfl, R7, by omega, by omega, fun u H8 u0 u1 k8 R8 => ?_⟩
          obtain ⟨m, rfl⟩ : ∃ m : Nat, u = (m : Int) := ⟨u.toNat, by omega⟩
          have ml : m < zs.length := by omega
          have ml2 : m < ps.length := by omega
          have hz8 : H8 pd = some (.lst zs) := k8 _ _ P7.1 hz
          have P8 := P7.kp R7 k8
          have B8 := B7.kp R7 k8
          have L8 := L7.kp R7 k8
          refine ⟨pd, zs, _, m, _, rfl, rfl, hz8, by omega, by omega, seqIdx ml, List.getElem?_eq_getElem ml, ?_⟩
          -- the pair that was popped
          obtain ⟨q0, hq0⟩ : ∃ q0, ps[m]? = some q0 := ⟨ps[m], List.getElem?_eq_getElem ml2⟩
          have okq := okps q0 (List.mem_of_getElem? hq0)
          have dv : Da H8 zs[m] (pD q0) := by
            obtain ⟨_, _, ys, hy, hdy⟩ := P8
            rw [hz8] at hy
            cases hy
            obtain ⟨v, hv, hd⟩ := hdy.get (i := m) (d := pD q0) (by rw [List.getElem?_map, hq0]; rfl)
            rw [List.getElem?_eq_getElem ml] at hv
            cases Option.some.inj hv
            exact hd
          have tk9 : TK H8 (upd H8 pd (.lst (zs.eraseIdx m))) := TK.at hz8 fun _ z => by cases z
          have P9 := P8.pop hz8 m
          have B9 := B8.other (xs := zs.eraseIdx m) hz8 npf.symm
          have L9 := L8.other (xs := zs.eraseIdx m) hz8 npl.symm
          have k9 : Kp r H (upd H8 pd (.lst (zs.eraseIdx m))) := (k7.trans k8).put P8.2.1
          have R9 : Row K sc r (upd H8 pd (.lst (zs.eraseIdx m))) := R.put R8 (k7.trans k8) P8.2.1
          obtain ⟨b, eb, hb⟩ := (dv.tk tk9).ints
          rw [eb]
          rw [map_erase] at P9
          generalize upd H8 pd (.lst (zs.eraseIdx m)) = H9 at tk9 P9 B9 L9 k9 R9 hb
          obtain ⟨_, _, xs, hx, _⟩ := id L9
          have hxl := L9.len hx
          rw [List.length_map] at hxl
          refine ⟨_, rfl, .inl ⟨rfl, _, SqL.of hx⟩, _, rfl, b, _, _, _, rfl, rfl, SqT.of hb, rfl, ?_⟩
          refine ⟨_, rfl, r, sc, 4, rfl, R9, by decide, by decide, fun e2 H10 t0 t1 k10 R10 => ?_⟩
          have hb10 := R9.tk k10 _ _ hb
          refine ⟨_, rfl, b, _, _, _, rfl, rfl, SqT.of hb10, rfl, (by show 3 ≤ sizeLine; decide), fun p hp => ?_⟩
          have S := Same.new (u := .tup [.int q0.2, .int e2, .int q0.1]) hp
          have P11 := (P9.kp R9 k10).same S
          have B11 := (B9.kp R9 k10).same S
          have L11 := (L9.kp R9 k10).same S
          have R11 := R10.same S
          have k11 := (k9.trans k10).new (u := .tup [.int q0.2, .int e2, .int q0.1]) hp
          have hp11 : upd H10 p (.tup [.int q0.2, .int e2, .int q0.1]) p = some (.tup [.int q0.2, .int e2, .int q0.1]) := upd_same
          have hx11 : upd H10 p (.tup [.int q0.2, .int e2, .int q0.1]) ln = some (.lst xs) := upk hp (k10 _ _ L9.1 hx)
          generalize upd H10 p (.tup [.int q0.2, .int e2, .int q0.1]) = H11 at hp11 B11 L11 R11 k11 P11 hx11
          refine ⟨ln, xs, _, rfl, rfl, hx11, big1000 (by omega), ?_⟩
          refine ⟨_, _, es ++ [some (q0.2, e2, q0.1)], ps.eraseIdx m, rfl, k11.put L11.2.1, R.put R11 k11 L11.2.1, B11.other hx11 nfl, P11.other hx11 npl, ?_, by rw [List.length_append, hes]; rfl, ?_, okE.snoc fun e he => ?_, fun q hq => okps q (List.mem_of_mem_eraseIdx hq)⟩
          · rw [List.map_append]
            exact L11.push hx11 (Da.of_ints (ns := [q0.2, e2, q0.1]) hp11)
          · rw [List.length_eraseIdx_of_lt ml2]
            omega
          · cases Option.some.inj he
            exact ⟨okq.2, ⟨t0, by show e2 ≤ 3; omega⟩, okq.1⟩
        · rintro σ H7 ⟨v7, v8, es, ps, rfl, k7, R7, B7, P7, L7, hes, hpl, okE, okps⟩
          obtain ⟨_, _, xs, hx, hdx⟩ := id L7
          obtain ⟨_, _, ys, hy, _⟩ := id B7
          have hyl := B7.len hy
          rw [List.length_map] at hyl
          refine ⟨_, rfl, .inl ⟨rfl, _, SqL.of hy⟩, _, rfl, ln, xs, rfl, .inl ⟨SqL.of hx, fun p hp => ?_⟩⟩
          refine ⟨fd, ys, _, rfl, rfl, upk hp hy, big1000 (by omega), ?_⟩
          have S := Same.new (u := .tup xs) hp
          have hrow' : Da (upd H7 p (.tup xs)) (.ref p) (rowD es) := .tup upd_same (hdx.tk (TK.of S))
          refine ⟨_, _, _, _, T ++ [es], ps, rfl, (k7.new hp).put B7.2.1, R.put (R7.same S) (k7.new hp) B7.2.1, ?_, (P7.same S).other (upk hp hy) npf, by rw [List.length_append, hT]; rfl, by omega, okT.snoc hes okE, okps⟩
          rw [List.map_append]
          exact (B7.same S).push (upk hp hy) hrow'
      · rintro σ H5 ⟨v5, v6, v7, v8, T, ps, rfl, k5, R5, B5, P5, hT, hpl, okT, okps⟩
        obtain ⟨_, _, ys, hy, hdy⟩ := id B5
        refine ⟨_, rfl, fd, ys, rfl, .inl ⟨SqL.of hy, fun p hp => ?_⟩⟩
        have S := Same.new (u := .tup ys) hp
        refine q (.ref p) T n _ ⟨by omega, by omega, n1, by omega, fun r hr => (okT r hr).1, fun r hr e he => ?_⟩ (by omega) n2 (k5.new hp) (R5.same S) (.tup upd_same (hdy.tk (TK.of S)))
        rw [hT]
        exact (okT r hr).2 e he
end
end WayP
/-! the law's floors and sources -/
namespace WayP
open PySem PySem.Spec PyProof.Rows L2 WayR Way
section
variable {P : Program} {w : World} {K : PySem.W.Frag} {mg : Str → Option Value} {base : Heap} {cW cE cN hA h0 h1 h2 h3 : Addr}
/-! ### _law_floor -/
def spLFloor : Sp := fun vs H Q _ => ∃ (d : Addr) (f : Int × Int → Int) (n : Nat), vs = [.ref d] ∧ SqD H d f n ∧ n ≤ 5000 ∧ (∀ q, 0 ≤ f q) ∧ ∀ v F H', Same H H' → Da H' v (floD F) → IsFloor F f → F.length ≤ n → Q v H'
theorem ok__law_floor (T : Txt K mg cW cE cN hA h0 h1 h2 h3) : C8.Cal P w K mg base 1 "_law_floor" spLFloor [] := by
  refine cal_of T.d__law_floor sc__law_floor (fun vs H Q E h => ?_) (fun f cdv A outer s H vs Q E hr h => ?_)
  · obtain ⟨d, f, n, rfl, _⟩ := h
    rfl
  · obtain ⟨d, f, n, rfl, ⟨kvs, hd, hk, hl⟩, hn, f0, q⟩ := h
    have hu := hu_of hr
    refine ⟨_, pss_one (ps_ret (pe_callTy call_tuple_of (by rfl) T.ztuple (by decide +kernel) (pa_cons (pe_lc (own := [("_law_place", 1)]) (g := gName 1) rfl sc__law_floor.nd (pi_list (pe_callB (cr_sortedKeysT rfl) (by rfl) T.zsorted (by decide +kernel) (pa_cons (pe_bm0 PySem.F.plainAttrs_dict PySem.F.slot_dict_keys PySem.F.type_dict_keys mt_keysT (pv 0)) pa_nil))) (blkOk_by (own := [("_law_place", 1)]) (N := nm__law_floor) (sc := defScope s__law_floor) (by decide +kernel)) (fun _ _ _ _ _ => pg_name (i := 1) sc__law_floor.nd rfl (Or.inl rfl)) (fun _ _ _ _ _ => pts_one (pt_cmpR op_gt (pe_dget hu (pv 0) (pv 1) (fun _ _ => rfl)) (pe_int) (nomark _))) (fun _ _ _ _ _ => (pe_op (r := rCatA K) op_catA (pv 1) (pe_tup (pa_cons (pe_dget hu (pv 0) (pv 1) (fun _ _ => rfl)) pa_nil))))) pa_nil))), ?_⟩
    obtain ⟨ks, e, nd, mem⟩ := hk.keys
    refine ⟨_, rfl, .inr (.inr (.inl ⟨rfl, .inr ⟨kvs, hd⟩⟩)), d, kvs, rfl, rfl, hd, fun p hp => ?_⟩
    refine ⟨p, d, kvs, ks, rfl, upd_same, upk hp hd, e, fun l L hp1 hp2 hp3 hl0 => ?_⟩
    obtain ⟨g1, g2, g3⟩ := sorted_keys hp1 hp2 nd
    have hLl : L.length ≤ 5000 := by
      have a1 : L.length = ks.length := by rw [← hp1.length_eq, List.length_map]
      have a2 : ks.length = kvs.length := by rw [← List.length_map (f := kk), ← e, List.length_map]
      omega
    have sA : Same H (upd (upd H p (keysO p d)) l (.lst (L.map fun q => V.ref q.1))) := (Same.new hp).trans (Same.new hl0)
    generalize hH1 : upd (upd H p (keysO p d)) l (.lst (L.map fun q => V.ref q.1)) = H1 at sA
    have hL1 : H1 l = some (.lst (L.map fun q => V.ref q.1)) := by rw [← hH1]; exact upd_same
    have hP3 : ∀ q ∈ L, H1 q.1 = some (.tup [.int q.2.1, .int q.2.2]) := fun q hq => by rw [← hH1]; exact upk hl0 (hp3 q hq)
    refine ⟨l, rfl, ⟨_, SqL.of hL1⟩, fun D hD => ?_⟩
    refine lc_list (xs := L.map fun q => V.ref q.1) (fun i H' => MkF H1 D f (L.map (·.2)) i H') (MkF.start hD) (fun i H' _ M => SqL.of (M.1 _ _ hL1)) ?_ ?_
    · rintro i y H' hi M
      rw [List.getElem?_map] at hi
      cases hLi : L[i]? with
      | none => rw [hLi] at hi; cases hi
      | some z =>
        rw [hLi] at hi
        cases Option.some.inj hi
        obtain ⟨b, x, y⟩ := z
        have hmem : ((b, x, y) : Addr × Int × Int) ∈ L := List.mem_of_getElem? hLi
        have hb : H' b = some (.tup [.int x, .int y]) := M.1 _ _ (hP3 _ hmem)
        have hd' : H' d = some (.dT kvs) := M.1 _ _ (sA _ _ hd)
        have hks : (L.map (·.2))[i]? = some (x, y) := by rw [List.getElem?_map, hLi]; rfl
        obtain ⟨v, hv⟩ := (mem (x, y)).mp ((g3 _).mp (List.mem_of_getElem? hks))
        have hv2 : valV kvs (kk (x, y)) = some (.int (f (x, y))) := by
          rcases hk.vl (x, y) with ⟨z, _⟩ | z
          · rw [hv] at z; cases z
          · exact z
        refine ⟨rfl, ?_⟩
        refine ⟨_, rfl, _, rfl, _, _, rfl, .inr ⟨kvs, kk (x, y), b, .inl hd', rfl, hb, hv2.symm⟩, _, _, rfl, rfl, ⟨_, rfl, ?_⟩⟩
        have f00 := f0 (x, y)
        by_cases h : f (x, y) = 0
        · refine ifF (decide_eq_false (by omega)) ?_
          exact M.skip hks h
        · refine ifT (decide_eq_true (by omega)) ?_
          refine ⟨_, rfl, _, rfl, _, rfl, _, _, rfl, .inr ⟨kvs, kk (x, y), b, .inl hd', rfl, hb, hv2.symm⟩, (by show 1 ≤ sizeLine; decide), fun p1 hq1 => ?_⟩
          refine ⟨b, p1, _, _, rfl, rfl, SqT.of (upk hq1 hb), SqT.of upd_same, (by show 3 ≤ sizeLine; decide), (fun z => by cases z), (fun _ z => by cases z), fun _ _ p2 hq2 => ?_⟩
          exact M.step hD ((Same.new hq1).trans (Same.new hq2)) hks h (by have := (List.getElem?_eq_some_iff.mp hLi).1; omega) upd_same
    · rintro H' ⟨s0, acc, h1', h2'⟩
      rw [take_all (by simp)] at h2'
      refine ⟨D, acc, rfl, .inl ⟨SqL.of h1', fun z hz => ?_⟩⟩
      refine q (.ref z) _ _ ((sA.trans s0).trans (Same.new hz)) (.tup upd_same (h2'.tk (TK.new hz))) (floorL_is g1 g2 fun q hq => (g3 q).mpr ((mem q).mpr ?_)) ?_
      · rcases hk.vl q with ⟨_, z⟩ | z
        · exact absurd z hq
        · exact ⟨_, z⟩
      · refine Nat.le_trans (floorL_len _ _) ?_
        have a1 : L.length = ks.length := by rw [← hp1.length_eq, List.length_map]
        have a2 : ks.length = kvs.length := by rw [← List.length_map (f := kk), ← e, List.length_map]
        rw [List.length_map]
        omega

/-! ### _law_some_floor -/
def spSFloor (K : PySem.W.Frag) : Sp := fun vs H Q _ => ∃ (r sc : Addr) (n : Nat) (m : Int), vs = [.ref r, .int n, .int m] ∧ Row K sc r H ∧ 2 ≤ n ∧ n ≤ 6 ∧ 0 ≤ m ∧ m ≤ 6 ∧ ∀ v F H', FloOk F n 3 → F.length ≤ 6 → Kp r H H' → Row K sc r H' → Da H' v (floD F) → Q v H'
theorem ok__law_some_floor (T : Txt K mg cW cE cN hA h0 h1 h2 h3) : C8.Cal P w K mg base 3 "_law_some_floor" (spSFloor K) [] := by
  refine cal_of T.d__law_some_floor sc__law_some_floor (fun vs H Q E h => ?_) (fun f cdv A outer s H vs Q E hr h => ?_)
  · obtain ⟨r, sc, n, m, rfl, _⟩ := h
    rfl
  · obtain ⟨r, sc, n, m, rfl, R, n2, n6, m0, m6, q⟩ := h
    have hu := hu_of hr
    refine ⟨_, pss_cons (ps_set (i := 3) sc__law_some_floor.nd rfl (Or.inr rfl) (pe_dnewT))
      (pss_cons (ps_for PassesOwn.never rfl (pi_range1 rfl T.zrange (pa_cons (C8.pe_c (ok__law_taken T) hr (by decide) rfl (pa_cons (pv 0) (pa_cons (pe_op op_add (pv 2) (pe_int)) pa_nil))) pa_nil)) (pg_name (i := 4) sc__law_some_floor.nd rfl (Or.inl rfl))
        (pss_one (ps_dput hu (pv 3) (pe_tup (pa_cons (C8.pe_c (ok__law_signed T) hr (by decide) rfl (pa_cons (pv 0) (pa_cons (pe_int) pa_nil))) (pa_cons (C8.pe_c (ok__law_signed T) hr (by decide) rfl (pa_cons (pv 0) (pa_cons (pe_int) pa_nil))) pa_nil))) (pe_op op_add (pe_int) (C8.pe_c (ok__law_taken T) hr (by decide) rfl (pa_cons (pv 0) (pa_cons (pe_op op_sub (pv 1) (pe_int)) pa_nil)))) rfl)))
      (pss_one (ps_ret (pe_callTy call_tuple_of (by rfl) T.ztuple (by decide +kernel) (pa_cons (pe_lc (own := [("_law_place", 5)]) (g := gName 5) (tt := tYes) rfl sc__law_some_floor.nd (pi_list (pe_callB (cr_sortedKeysT rfl) (by rfl) T.zsorted (by decide +kernel) (pa_cons (pe_bm0 PySem.F.plainAttrs_dict PySem.F.slot_dict_keys PySem.F.type_dict_keys mt_keysT (pv 3)) pa_nil))) (blkOk_by (own := [("_law_place", 5)]) (N := nm__law_some_floor) (sc := defScope s__law_some_floor) (by decide +kernel)) (fun _ _ _ _ _ => pg_name (i := 5) sc__law_some_floor.nd rfl (Or.inl rfl)) (fun _ _ _ _ _ => pts_nil) (fun _ _ _ _ _ => (pe_op (r := rCatA K) op_catA (pv 5) (pe_tup (pa_cons (pe_dget hu (pv 3) (pv 5) (fun _ _ => rfl)) pa_nil))))) pa_nil))))), ?_⟩
    refine fun d hd => ?_
    obtain ⟨rl, hrl⟩ := R.lst
    have ndr : d ≠ r := fun e => by rw [e, hrl] at hd; cases hd
    have S0 := Same.new (u := .dT []) hd
    have k0 : Kp r H (upd H d (.dT [])) := Kp.of S0
    refine ⟨_, rfl, _, rfl, _, _, rfl, rfl, r, sc, _, rfl, R.same S0, by omega, by omega, fun x H1 x0 x1 k1 R1 => ?_⟩
    refine ⟨x, rfl, by omega, by omega, ?_⟩
    refine for_range (fun i σ H' => ∃ (v4 : Option V) (f : Int × Int → Int) (kvs : List (List Key × V)), σ = [some (.ref r), some (.int (n : Int)), some (.int m), some (.ref d), v4, none] ∧ Kp r H H' ∧ Row K sc r H' ∧ H' d = some (.dT kvs) ∧ SqK kvs f ∧ kvs.length ≤ i ∧
        ∀ q, (∃ v, valV kvs (kk q) = some v) → (-3 ≤ q.1 ∧ q.1 ≤ 3) ∧ (-3 ≤ q.2 ∧ q.2 ≤ 3) ∧ (1 ≤ f q ∧ f q < (n : Int)))
      ⟨_, _, [], rfl, k0.trans k1, R1, k1 _ _ ndr upd_same, SqK.nil, Nat.le_refl _, fun q ⟨v, hv⟩ => by cases hv⟩ ?_ ?_
    · rintro i σ H2 hi ⟨v4, f, kvs, rfl, k2, R2, hdd, hk, hl, okf⟩
      refine ⟨_, rfl, _, rfl, _, _, rfl, rfl, r, sc, _, rfl, R2, by omega, by omega, fun c H3 c0 c1 k3 R3 => ⟨_, _, rfl, rfl, ?_⟩⟩
      refine ⟨_, rfl, _, rfl, r, sc, 3, rfl, R3, by decide, by decide, fun px H4 px0 px1 k4 R4 => ?_⟩
      refine ⟨_, rfl, r, sc, 3, rfl, R4, by decide, by decide, fun py H5 py0 py1 k5 R5 => ⟨(by show 2 ≤ sizeLine; decide), fun p hp => ?_⟩⟩
      have k25 := (k3.trans k4).trans k5
      have hd5 : H5 d = some (.dT kvs) := k25 _ _ ndr hdd
      refine ⟨d, _, rfl, .inr ⟨kvs, kk (px, py), p, upk hp hd5, rfl, upd_same, big1000 (by omega), rfl⟩, ?_⟩
      refine ⟨_, _, _, rfl, ((k2.trans k25).new hp).put hd, R.put (R5.same (Same.new hp)) ((k2.trans k25).new hp) hd, upd_same, hk.put (px, py) (1 + c), Nat.le_trans (length_putK _ _ _) (Nat.succ_le_succ hl), fun q ⟨v, hv⟩ => ?_⟩
      rw [valV_put] at hv
      by_cases e : q = (px, py)
      · rw [e, Way.put_same]
        exact ⟨⟨px0, px1⟩, ⟨py0, py1⟩, ⟨by omega, by omega⟩⟩
      · rw [if_neg fun z => e (kk_inj z)] at hv
        rw [Way.put_ne e]
        exact okf q ⟨v, hv⟩
    · rintro σ H2 ⟨v4, f, kvs, rfl, k2, R2, hdd, hk, hl, okf⟩
      obtain ⟨ks, e, nd, mem⟩ := hk.keys
      refine ⟨_, rfl, .inr (.inr (.inl ⟨rfl, .inr ⟨kvs, hdd⟩⟩)), d, kvs, rfl, rfl, hdd, fun p hp => ?_⟩
      refine ⟨p, d, kvs, ks, rfl, upd_same, upk hp hdd, e, fun l L hp1 hp2 hp3 hl0 => ?_⟩
      obtain ⟨g1, g2, g3⟩ := sorted_keys hp1 hp2 nd
      have hLl : L.length ≤ 6 := by
        have a1 : L.length = ks.length := by rw [← hp1.length_eq, List.length_map]
        have a2 : ks.length = kvs.length := by rw [← List.length_map (f := kk), ← e, List.length_map]
        omega
      have sA : Same H2 (upd (upd H2 p (keysO p d)) l (.lst (L.map fun q => V.ref q.1))) := (Same.new hp).trans (Same.new hl0)
      generalize hH1 : upd (upd H2 p (keysO p d)) l (.lst (L.map fun q => V.ref q.1)) = H3 at sA
      have hL1 : H3 l = some (.lst (L.map fun q => V.ref q.1)) := by rw [← hH1]; exact upd_same
      have hP3 : ∀ q ∈ L, H3 q.1 = some (.tup [.int q.2.1, .int q.2.2]) := fun q hq => by rw [← hH1]; exact upk hl0 (hp3 q hq)
      refine ⟨l, rfl, ⟨_, SqL.of hL1⟩, fun D hD => ?_⟩
      refine lc_list (xs := L.map fun q => V.ref q.1) (fun i H' => MkF H3 D f (L.map (·.2)) i H') (MkF.start hD) (fun i H' _ M => SqL.of (M.1 _ _ hL1)) ?_ ?_
      · rintro i y H' hi M
        rw [List.getElem?_map] at hi
        cases hLi : L[i]? with
        | none => rw [hLi] at hi; cases hi
        | some z =>
          rw [hLi] at hi
          cases Option.some.inj hi
          obtain ⟨b, x, y⟩ := z
          have hmem : ((b, x, y) : Addr × Int × Int) ∈ L := List.mem_of_getElem? hLi
          have hb : H' b = some (.tup [.int x, .int y]) := M.1 _ _ (hP3 _ hmem)
          have hd' : H' d = some (.dT kvs) := M.1 _ _ (sA _ _ hdd)
          have hks : (L.map (·.2))[i]? = some (x, y) := by rw [List.getElem?_map, hLi]; rfl
          obtain ⟨v, hv⟩ := (mem (x, y)).mp ((g3 _).mp (List.mem_of_getElem? hks))
          have hv2 : valV kvs (kk (x, y)) = some (.int (f (x, y))) := by
            rcases hk.vl (x, y) with ⟨z, _⟩ | z
            · rw [hv] at z; cases z
            · exact z
          have hf := (okf (x, y) ⟨v, hv⟩).2.2.1
          refine ⟨rfl, ?_⟩
          refine ⟨_, rfl, _, rfl, _, rfl, _, _, rfl, .inr ⟨kvs, kk (x, y), b, .inl hd', rfl, hb, hv2.symm⟩, (by show 1 ≤ sizeLine; decide), fun p1 hq1 => ?_⟩
          refine ⟨b, p1, _, _, rfl, rfl, SqT.of (upk hq1 hb), SqT.of upd_same, (by show 3 ≤ sizeLine; decide), (fun z => by cases z), (fun _ z => by cases z), fun _ _ p2 hq2 => ?_⟩
          exact M.step hD ((Same.new hq1).trans (Same.new hq2)) hks (by omega) (by have := (List.getElem?_eq_some_iff.mp hLi).1; omega) upd_same
      · rintro H' ⟨s0, acc, h1', h2'⟩
        rw [take_all (by simp)] at h2'
        refine ⟨D, acc, rfl, .inl ⟨SqL.of h1', fun z hz => ?_⟩⟩
        have iF : IsFloor (floorL f (L.map (·.2))) f := floorL_is g1 g2 fun q hq => (g3 q).mpr ((mem q).mpr (by
          rcases hk.vl q with ⟨_, z⟩ | z
          · exact absurd z hq
          · exact ⟨_, z⟩))
        have fl : (floorL f (L.map (·.2))).length ≤ 6 := Nat.le_trans (floorL_len _ _) (by rw [List.length_map]; exact hLl)
        have sB := (sA.trans s0).trans (Same.new (u := .tup acc) hz)
        refine q (.ref z) _ _ ⟨iF.sorted, by omega, fun s hs => ?_⟩ fl (k2.trans (Kp.of sB)) (R2.same sB) (.tup upd_same (h2'.tk (TK.new hz)))
        obtain ⟨x, y, c⟩ := s
        obtain ⟨m1, m2, m3⟩ := mem_floorL.mp hs
        have := okf (x, y) ((mem (x, y)).mp ((g3 _).mp m1))
        rw [m2] at this
        exact this

/-! ### _law_sources -/
def spLSources : Sp := fun vs H Q _ => ∃ (tv : V) (t : Tab) (n : Nat) (s p : Int), vs = [tv, .int s, .int p] ∧ Da H tv (tabD t) ∧ TabOk t n ∧ ∀ l xs H', Same H H' → H l = none → H' l = some (.lst xs) → DaAll H' xs ((srcs t (s, p)).map pD) → Q (.ref l) H'
theorem ok__law_sources (T : Txt K mg cW cE cN hA h0 h1 h2 h3) : C8.Cal P w K mg base 1 "_law_sources" spLSources [] := by
  refine cal_of T.d__law_sources sc__law_sources (fun vs H Q E h => ?_) (fun f cdv A outer s H vs Q E hr h => ?_)
  · obtain ⟨tv, t, n, s, p, rfl, _⟩ := h
    rfl
  · obtain ⟨tv, t, n, s, p, rfl, ht, okt, q⟩ := h
    have hu := hu_of hr
    refine ⟨_, pss_cons (ps_set (i := 3) sc__law_sources.nd rfl (Or.inl rfl) (pe_lst pa_nil))
      (pss_cons (ps_for PassesOwn.never rfl (pi_range1 rfl T.zrange (pa_cons (pe_callB call_len_seq (by rfl) T.zlen PySem.boot_len (pa_cons (pv 0) pa_nil)) pa_nil)) (pg_name (i := 4) sc__law_sources.nd rfl (Or.inl rfl))
        (pss_one (ps_for PassesOwn.never rfl (pi_range1 rfl T.zrange (pa_cons (pe_callB call_len_seq (by rfl) T.zlen PySem.boot_len (pa_cons (pe_ix ix_tup (pv 0) (pe_int) (fun _ _ => rfl)) pa_nil)) pa_nil)) (pg_name (i := 5) sc__law_sources.nd rfl (Or.inl rfl))
          (pss_one (ps_if (PW.pt (pw_and (pt_cmpR op_notN (pe_ix ix_tup (pe_ix ix_tup (pv 0) (pv 4) (fun _ _ => rfl)) (pv 5) (fun _ _ => rfl)) pe_non (nomark _)) (pw_and (pt_cmpR op_eq (pe_ix ix_tup (pe_ix ix_tup (pe_ix ix_tup (pv 0) (pv 4) (fun _ _ => rfl)) (pv 5) (fun _ _ => rfl)) (pe_int) (fun _ _ => rfl)) (pv 1) (nomark _)) (pw_and1 (pt_cmpR op_eq (pe_ix ix_tup (pe_ix ix_tup (pe_ix ix_tup (pv 0) (pv 4) (fun _ _ => rfl)) (pv 5) (fun _ _ => rfl)) (pe_int) (fun _ _ => rfl)) (pv 2) (nomark _))))))
            (pss_one (ps_expr (pe_bm PySem.F.plainAttrs_list PySem.F.slot_list_append PySem.F.type_list_append mt_append (pv 3) (pa_cons (pe_tup (pa_cons (pv 4) (pa_cons (pv 5) pa_nil))) pa_nil))))
            pss_nil)))))
      (pss_one (ps_ret (pv 3)))), ?_⟩
    obtain ⟨a, ts, rfl, ha, hlen, hget, hget'⟩ := ht.map
    have t10 := okt.s2
    have c6 := okt.c2
    obtain ⟨r0, hr0⟩ : ∃ r0, t[0]? = some r0 := ⟨t[0]'(by have := okt.s1; omega), List.getElem?_eq_getElem _⟩
    obtain ⟨x0, hx0, hd0⟩ := hget 0 r0 hr0
    obtain ⟨b0, ys0, rfl, hb0, hl0, _⟩ := hd0.map
    have l0 : ys0.length = n := hl0.trans (okt.rows r0 (List.mem_of_getElem? hr0))
    refine ⟨Nat.zero_le _, fun l hl => ?_⟩
    have S0 := Same.new (u := .lst []) hl
    refine ⟨_, rfl, a, ts, rfl, .inr (SqT.of (S0 _ _ ha)), _, rfl, by omega, by omega, ?_⟩
    rw [Int.toNat_natCast]
    refine for_range (fun i σ H' => ∃ (v4 v5 : Option V) (xs : List V), σ = [some (.ref a), some (.int s), some (.int p), some (.ref l), v4, v5] ∧ Same H H' ∧ H' l = some (.lst xs) ∧ DaAll H' xs ((srcsOf (tabCells 0 (t.take i)) (s, p)).map pD))
      ⟨_, _, [], rfl, S0, upd_same, .nil⟩ ?_ ?_
    · rintro i σ H1 hi ⟨v4, v5, xs, rfl, s1, hx, hdx⟩
      obtain ⟨r, hr'⟩ : ∃ r, t[i]? = some r := ⟨t[i]'(by omega), List.getElem?_eq_getElem _⟩
      obtain ⟨xi, hxi, hdi⟩ := hget i r hr'
      obtain ⟨bi, ys, rfl, hbi, hli, hgi, _⟩ := hdi.map
      have li : r.length = n := okt.rows r (List.mem_of_getElem? hr')
      have ati : atI ts (0 + (i : Int)) = some (.ref bi) := by rw [Int.zero_add]; exact atI_nat hxi
      refine ⟨_, rfl, a, _, _, _, rfl, rfl, SqT.of (s1 _ _ ha), atI_nat hx0, b0, ys0, rfl, .inr (SqT.of (s1 _ _ hb0)), _, rfl, by omega, by omega, ?_⟩
      rw [Int.toNat_natCast]
      refine for_range (fun j σ H' => ∃ (v5 : Option V) (xs : List V), σ = [some (.ref a), some (.int s), some (.int p), some (.ref l), some (.int (0 + (i : Int))), v5] ∧ Same H H' ∧ H' l = some (.lst xs) ∧ DaAll H' xs ((srcsOf (tabCells 0 (t.take i) ++ rowCells i 0 (r.take j)) (s, p)).map pD))
        ⟨_, xs, rfl, s1, hx, by rw [List.take_zero]; show DaAll H1 xs ((srcsOf (_ ++ []) (s, p)).map pD); rw [List.append_nil]; exact hdx⟩ ?_ ?_
      · rintro j σ H2 hj ⟨v5, xs, rfl, s2, hx, hdx⟩
        obtain ⟨o, ho⟩ : ∃ o, r[j]? = some o := ⟨r[j]'(by omega), List.getElem?_eq_getElem _⟩
        obtain ⟨u, hu', hdo⟩ := hgi j o ho
        have atj : atI ys (0 + (j : Int)) = some u := by rw [Int.zero_add]; exact atI_nat hu'
        have ha2 := s2 _ _ ha
        have hb2 := s2 _ _ hbi
        rw [rowCells_take ho, ← List.append_assoc, srcsOf_append]
        have skip : keyOf o ≠ some (s, p) → ∃ (v5 : Option V) (xs' : List V), [some (V.ref a), some (.int s), some (.int p), some (.ref l), some (.int (0 + (i : Int))), some (.int (0 + (j : Int)))] = [some (V.ref a), some (.int s), some (.int p), some (.ref l), some (.int (0 + (i : Int))), v5] ∧ Same H H2 ∧ H2 l = some (.lst xs') ∧ DaAll H2 xs' ((srcsOf (tabCells 0 (t.take i) ++ rowCells i 0 (r.take j)) (s, p) ++ srcsOf [(((i : Int), (j : Int)), o)] (s, p)).map pD) := fun h => by
          refine ⟨_, xs, rfl, s2, hx, ?_⟩
          rw [srcsOf_one_no h, List.append_nil]
          exact hdx
        refine ⟨_, rfl, _, rfl, a, _, _, _, rfl, rfl, SqT.of ha2, ati, _, rfl, bi, _, _, _, rfl, rfl, SqT.of hb2, atj, rfl, _, rfl, ?_⟩
        cases o with
        | none =>
          cases hdo
          exact skip fun z => by cases z
        | some e =>
          obtain ⟨be, rfl, he⟩ := hdo.ints
          have he2 := s2 _ _ he
          refine ifT rfl ?_
          refine ⟨_, rfl, _, rfl, a, _, _, _, rfl, rfl, SqT.of ha2, ati, _, rfl, bi, _, _, _, rfl, rfl, SqT.of hb2, atj, be, _, _, _, rfl, rfl, SqT.of he2, rfl, _, rfl, rfl, _, rfl, ?_⟩
          by_cases e1 : e.2.2 = s
          · refine ifT (decide_eq_true (by rw [e1])) ?_
            refine ⟨_, rfl, _, rfl, a, _, _, _, rfl, rfl, SqT.of ha2, ati, _, rfl, bi, _, _, _, rfl, rfl, SqT.of hb2, atj, be, _, _, _, rfl, rfl, SqT.of he2, rfl, _, rfl, rfl, _, rfl, ?_⟩
            by_cases e2 : e.1 = p
            · refine ifT (decide_eq_true (by rw [e2])) ?_
              have hxl : xs.length ≤ 66 := by
                rw [hdx.length, List.length_map]
                exact Nat.le_trans (srcsOf_len _ _) (some_len (j := j) okt hr')
              refine ⟨_, rfl, .inl ⟨rfl, _, SqL.of hx⟩, _, rfl, _, rfl, (by show 2 ≤ sizeLine; decide), fun z hz => ?_⟩
              refine ⟨l, xs, _, rfl, rfl, upk hz hx, big1000 (by omega), ?_⟩
              have S := Same.new (u := .tup [.int (0 + (i : Int)), .int (0 + (j : Int))]) hz
              have tk : TK (upd H2 z (.tup [.int (0 + (i : Int)), .int (0 + (j : Int))])) (upd (upd H2 z (.tup [.int (0 + (i : Int)), .int (0 + (j : Int))])) l (.lst (xs ++ [.ref z]))) := TK.at (upk hz hx) fun _ z => by cases z
              refine ⟨_, _, rfl, Same.put (s2.trans S) hl, upd_same, ?_⟩
              rw [srcsOf_one_yes (by rw [← e1, ← e2]; rfl), List.map_append]
              refine DaAll.snoc ?_ ((hdx.tk (TK.of S)).tk tk)
              refine Da.of_ints (ns := [(i : Int), (j : Int)]) (tk _ _ ?_)
              rw [upd_same, Int.zero_add, Int.zero_add]
              rfl
            · refine ifF (decide_eq_false fun z => ?_) (skip fun z => e2 ?_)
              · injection z with z
                exact e2 z
              · exact (Prod.mk.inj (Option.some.inj z)).2
          · refine ifF (decide_eq_false fun z => ?_) (skip fun z => e1 ?_)
            · injection z with z
              exact e1 z
            · exact (Prod.mk.inj (Option.some.inj z)).1
      · rintro σ H2 ⟨v5, xs, rfl, s2, hx, hdx⟩
        rw [take_all (l := r) (by omega)] at hdx
        rw [tabCells_take hr']
        exact ⟨_, _, xs, rfl, s2, hx, hdx⟩
    · rintro σ H1 ⟨v4, v5, xs, rfl, s1, hx, hdx⟩
      rw [take_all (l := t) (by omega)] at hdx
      exact ⟨_, rfl, q l xs H1 s1 hl hx hdx⟩
end
end WayP
/-! the law's comparison -/
namespace WayP
open PySem PySem.Spec PyProof.Rows L2 WayR Way
mutual
def dp : D → Nat
  | .tup ds => dpAll ds + 1
  | _ => 0
def dpAll : List D → Nat
  | [] => 0
  | d :: ds => max (dp d) (dpAll ds)
end
theorem dp_mem : ∀ {ds : List D} {i : Nat} {d : D}, ds[i]? = some d → dp d ≤ dpAll ds
  | d :: ds, 0, _, h => by
    cases Option.some.inj h
    show dp d ≤ max (dp d) (dpAll ds)
    omega
  | d :: ds, i + 1, _, h => by
    have := dp_mem (ds := ds) (i := i) h
    show _ ≤ max (dp d) (dpAll ds)
    omega
mutual
/-- no tuple is longer -/
def wd : D → Nat
  | .tup ds => max ds.length (wdAll ds)
  | _ => 0
def wdAll : List D → Nat
  | [] => 0
  | d :: ds => max (wd d) (wdAll ds)
end
theorem wd_mem : ∀ {ds : List D} {i : Nat} {d : D}, ds[i]? = some d → wd d ≤ wdAll ds
  | d :: ds, 0, _, h => by
    cases Option.some.inj h
    show wd d ≤ max (wd d) (wdAll ds)
    omega
  | d :: ds, i + 1, _, h => by
    have := wd_mem (ds := ds) (i := i) h
    show _ ≤ max (wd d) (wdAll ds)
    omega
section
variable {P : Program} {w : World} {K : PySem.W.Frag} {mg : Str → Option Value} {base : Heap} {cW cE cN hA h0 h1 h2 h3 : Addr}
theorem kA1 {t : Value} (h1 : PySem.W.kitOne K t (.type "tuple") = some true) : PySem.W.kitAny K t [.type "tuple", .type "list"] = some true := kitAny_cons h1 (fun h => by cases h) (fun _ => rfl)
theorem kA0 {t : Value} (h1 : PySem.W.kitOne K t (.type "tuple") = some false) (h2 : PySem.W.kitOne K t (.type "list") = some false) : PySem.W.kitAny K t [.type "tuple", .type "list"] = some false :=
  kitAny_cons h1 (fun _ => kitAny_cons h2 (fun _ => kitAny_nil) (fun h => by cases h)) (fun h => by cases h)
theorem clsTL : Paired ClsV [V.ty "tuple", V.ty "list"] [.type "tuple", .type "list"] := .cons (.ty _) (.cons (.ty _) .nil)
def spAlike : Nat → Sp
  | 0 => fun _ _ _ _ => False
  | k + 1 => fun vs H Q _ => ∃ (x y : V) (d : D), vs = [x, y] ∧ Da H x d ∧ Da H y d ∧ dp d ≤ k ∧ wd d ≤ 5000 ∧ ∀ H', Same H H' → Q (.bl true) H'
theorem ok__law_alike (T : Txt K mg cW cE cN hA h0 h1 h2 h3) : ∀ k : Nat, C8.Cal P w K mg base (k + 1) "_law_alike" (spAlike k) []
  | 0 => by
    obtain ⟨f, fd, hf, kp, hm, b⟩ := T.d__law_alike.ex
    exact ⟨f, fd, _, [], ⟨fun _ _ _ _ h => h.elim, fun _ _ _ _ _ _ _ _ _ _ _ _ _ h => h.elim⟩, hm, kp, b, .nil⟩
  | k + 1 => by
    have ih : C8.Cal P w K mg base (k + 1) "_law_alike" (spAlike k) [] := ok__law_alike T k
    refine cal_of T.d__law_alike sc__law_alike (fun vs H Q E h => ?_) (fun f cdv A outer s H vs Q E hr h => ?_)
    · obtain ⟨x, y, d, rfl, _⟩ := h
      rfl
    · obtain ⟨x, y, d, rfl, hx, hy, hd, hw, q⟩ := h
      have hu := hu_of hr
      refine ⟨_, pss_cons (ps_if (pt_val (pe_callB call_isiT (by rfl) T.zisinstance (by decide +kernel) (pa_cons (pv 1) (pa_cons (pe_tup (pa_cons (pe_bltn (v := .ty "tuple") (by rfl) T.ztuple (by decide +kernel) rfl) (pa_cons (pe_bltn (v := .ty "list") (by rfl) T.zlist (by decide +kernel) rfl) pa_nil))) pa_nil))))
        (pss_cons (ps_if (PW.pt (pw_or (pt_not (pt_val (pe_callB call_isiT (by rfl) T.zisinstance (by decide +kernel) (pa_cons (pv 0) (pa_cons (pe_tup (pa_cons (pe_bltn (v := .ty "tuple") (by rfl) T.ztuple (by decide +kernel) rfl) (pa_cons (pe_bltn (v := .ty "list") (by rfl) T.zlist (by decide +kernel) rfl) pa_nil))) pa_nil))))) (pw_or1 (pt_cmpR op_ne (pe_callB call_isi (by rfl) T.zisinstance (by decide +kernel) (pa_cons (pv 0) (pa_cons (pe_bltn (v := .ty "list") (by rfl) T.zlist (by decide +kernel) rfl) pa_nil))) (pe_callB call_isi (by rfl) T.zisinstance (by decide +kernel) (pa_cons (pv 1) (pa_cons (pe_bltn (v := .ty "list") (by rfl) T.zlist (by decide +kernel) rfl) pa_nil))) (nomark _)))))
          (pss_one (ps_ret (pe_bl)))
          pss_nil)
        (pss_cons (ps_if (pt_cmpR op_ne (pe_callB call_len_seq (by rfl) T.zlen PySem.boot_len (pa_cons (pv 0) pa_nil)) (pe_callB call_len_seq (by rfl) T.zlen PySem.boot_len (pa_cons (pv 1) pa_nil)) (nomark _))
          (pss_one (ps_ret (pe_bl)))
          pss_nil)
        (pss_one (ps_ret (pe_cmpR (op_eqD hr.units) (pe_lc (own := [("_law_k", 2)]) (g := gName 2) rfl sc__law_alike.nd (pi_range1 rfl T.zrange (pa_cons (pe_callB call_len_seq (by rfl) T.zlen PySem.boot_len (pa_cons (pv 1) pa_nil)) pa_nil)) (blkOk_by (own := [("_law_k", 2)]) (N := nm__law_alike) (sc := defScope s__law_alike) (by decide +kernel)) (fun _ _ _ _ _ => pg_name (i := 2) sc__law_alike.nd rfl (Or.inl rfl)) (fun _ _ _ _ _ => pts_one (pt_not (pt_val (C8.pe_c ih hr (Nat.le_refl _) rfl (pa_cons (pe_ix (r := rIxT K) ix_tup (pv 0) (pv 2) (fun _ _ => rfl)) (pa_cons (pe_ix (r := rIxT K) ix_tup (pv 1) (pv 2) (fun _ _ => rfl)) pa_nil)))))) (fun _ _ _ _ _ => (pv 2))) (pe_lst pa_nil) (nomark _))))))
        pss_nil)
      (pss_cons (ps_if (PW.pt (pw_or (pt_cmpR op_isN (pv 1) pe_non (nomark _)) (pw_or1 (pt_val (pe_callB call_isi (by rfl) T.zisinstance (by decide +kernel) (pa_cons (pv 1) (pa_cons (pe_bltn (v := .ty "str") (by rfl) T.zstr (by decide +kernel) rfl) pa_nil)))))))
        (pss_one (ps_ret (pe_and (pe_cmpR op_eq (pv 0) (pv 1) (nomark _)) (pe_one (pe_cmpR op_eq (pe_callB call_isi (by rfl) T.zisinstance (by decide +kernel) (pa_cons (pv 0) (pa_cons (pe_bltn (v := .ty "str") (by rfl) T.zstr (by decide +kernel) rfl) pa_nil))) (pe_callB call_isi (by rfl) T.zisinstance (by decide +kernel) (pa_cons (pv 1) (pa_cons (pe_bltn (v := .ty "str") (by rfl) T.zstr (by decide +kernel) rfl) pa_nil))) (nomark _))))))
        pss_nil)
      (pss_one (ps_ret (pe_and (pe_callB call_isi (by rfl) T.zisinstance (by decide +kernel) (pa_cons (pv 0) (pa_cons (pe_bltn (v := .ty "int") (by rfl) T.zint (by decide +kernel) rfl) pa_nil))) (pe_and (pe_cmpR op_eq (pe_callB call_isi (by rfl) T.zisinstance (by decide +kernel) (pa_cons (pv 0) (pa_cons (pe_bltn (v := .ty "bool") (by rfl) T.zbool (by decide +kernel) rfl) pa_nil))) (pe_callB call_isi (by rfl) T.zisinstance (by decide +kernel) (pa_cons (pv 1) (pa_cons (pe_bltn (v := .ty "bool") (by rfl) T.zbool (by decide +kernel) rfl) pa_nil))) (nomark _)) (pe_one (pe_cmpR op_eq (pv 0) (pv 1) (nomark _)))))))), ?_⟩
      refine ⟨_, rfl, (by show 2 ≤ sizeLine; decide), fun p hp => ?_⟩
      have S1 := Same.new (u := .tup [.ty "tuple", .ty "list"]) hp
      have hp1 : upd H p (.tup [.ty "tuple", .ty "list"]) p = some (.tup [.ty "tuple", .ty "list"]) := upd_same
      generalize upd H p (.tup [.ty "tuple", .ty "list"]) = H1 at S1 hp1
      cases hd2 : d with
      | tup ds =>
        subst hd2
        obtain ⟨a, xs, rfl, ha, hxs⟩ := hx.inv
        obtain ⟨b, ys, rfl, hb, hys⟩ := hy.inv
        have lx := hxs.length
        have ly := hys.length
        refine ⟨_, p, _, _, _, true, rfl, hp1, clsTL, .base (.tup (S1 _ _ hb)), kA1 (kit_ty (by decide +kernel)), true, rfl, ?_⟩
        refine ⟨_, rfl, (by show 2 ≤ sizeLine; decide), fun p2 hp2 => ?_⟩
        have S2 := S1.trans (Same.new (u := .tup [.ty "tuple", .ty "list"]) hp2)
        have hp22 : upd H1 p2 (.tup [.ty "tuple", .ty "list"]) p2 = some (.tup [.ty "tuple", .ty "list"]) := upd_same
        generalize upd H1 p2 (.tup [.ty "tuple", .ty "list"]) = H2 at S2 hp22
        refine ⟨_, p2, _, _, _, true, rfl, hp22, clsTL, .base (.tup (S2 _ _ ha)), kA1 (kit_ty (by decide +kernel)), true, rfl, ?_⟩
        refine ⟨_, rfl, _, _, _, _, false, rfl, .ty _, .base (.tup (S2 _ _ ha)), kit_ty (by decide +kernel), _, rfl, _, _, _, _, false, rfl, .ty _, .base (.tup (S2 _ _ hb)), kit_ty (by decide +kernel), rfl, _, rfl, ?_⟩
        refine ⟨_, rfl, _, _, rfl, .inr (SqT.of (S2 _ _ ha)), _, rfl, _, _, rfl, .inr (SqT.of (S2 _ _ hb)), rfl, _, rfl, ?_⟩
        refine ifF (by rw [lx, ly]; simp) ?_
        have w1 : ds.length ≤ 5000 := Nat.le_trans (Nat.le_max_left _ _) hw
        have w2 : wdAll ds ≤ 5000 := Nat.le_trans (Nat.le_max_right _ _) hw
        have hd1 : dpAll ds + 1 ≤ k := hd
        obtain ⟨j, rfl⟩ : ∃ j, k = j + 1 := ⟨k - 1, by omega⟩
        refine ⟨_, rfl, b, ys, rfl, .inr (SqT.of (S2 _ _ hb)), _, rfl, by omega, by omega, ?_⟩
        rw [Int.toNat_natCast]
        intro D hD
        refine lc_range (fun i H' => Same H2 H' ∧ H' D = some (.lst [])) ⟨Same.new hD, upd_same⟩ ?_ ?_
        · rintro i H3 hi ⟨s3, hD3⟩
          have S3 := S2.trans s3
          obtain ⟨e, he⟩ : ∃ e, ds[i]? = some e := ⟨ds[i]'(by omega), List.getElem?_eq_getElem _⟩
          obtain ⟨u, hu1, hu2⟩ := hxs.get he
          obtain ⟨v, hv1, hv2⟩ := hys.get he
          refine ⟨rfl, ?_⟩
          refine ⟨_, rfl, _, rfl, a, xs, _, u, rfl, rfl, SqT.of (S3 _ _ ha), (by rw [Int.zero_add]; exact atI_nat hu1), _, rfl, _, rfl, b, ys, _, v, rfl, rfl, SqT.of (S3 _ _ hb), (by rw [Int.zero_add]; exact atI_nat hv1), ?_⟩
          refine ⟨u, v, e, rfl, hu2.tk (TK.of S3), hv2.tk (TK.of S3), by have := dp_mem he; omega, by have := wd_mem he; omega, fun H4 s4 => ⟨true, rfl, ?_⟩⟩
          exact ⟨s3.trans s4, s4 _ _ hD3⟩
        · rintro H3 ⟨s3, hD3⟩
          refine ⟨Nat.zero_le _, fun p3 hp3 => ?_⟩
          refine ⟨.list [], .list [], .lst (SqL.of (upk hp3 hD3)) .nil, .lst (SqL.of upd_same) .nil, by decide, by decide, ?_⟩
          exact q _ ((S2.trans s3).trans (Same.new hp3))
      | non =>
        subst hd2
        cases hx
        cases hy
        refine ⟨_, p, _, _, _, false, rfl, hp1, clsTL, .base .non, kA0 (kit_ty (by decide +kernel)) (kit_ty (by decide +kernel)), false, rfl, ?_⟩
        refine ⟨_, rfl, rfl, true, rfl, ?_⟩
        refine ⟨_, rfl, _, rfl, rfl, true, rfl, ?_⟩
        refine ⟨_, rfl, _, _, _, _, false, rfl, .ty _, .base .non, kit_ty (by decide +kernel), _, rfl, _, _, _, _, false, rfl, .ty _, .base .non, kit_ty (by decide +kernel), rfl, ?_⟩
        exact q _ S1
      | str z =>
        subst hd2
        cases hx
        cases hy
        refine ⟨_, p, _, _, _, false, rfl, hp1, clsTL, .base (.str _), kA0 (kit_ty (by decide +kernel)) (kit_ty (by decide +kernel)), false, rfl, ?_⟩
        refine ⟨_, rfl, rfl, false, rfl, ?_⟩
        refine ⟨_, rfl, _, _, _, _, true, rfl, .ty _, .base (.str _), kit_ty (by decide +kernel), true, rfl, ?_⟩
        refine ⟨_, rfl, _, rfl, rfl, _, rfl, ifT (decide_eq_true rfl) ?_⟩
        refine ⟨_, rfl, _, _, _, _, true, rfl, .ty _, .base (.str _), kit_ty (by decide +kernel), _, rfl, _, _, _, _, true, rfl, .ty _, .base (.str _), kit_ty (by decide +kernel), rfl, ?_⟩
        exact q _ S1
      | bl z =>
        subst hd2
        cases hx
        cases hy
        refine ⟨_, p, _, _, _, false, rfl, hp1, clsTL, .base (.bl _), kA0 (kit_ty (by decide +kernel)) (kit_ty (by decide +kernel)), false, rfl, ?_⟩
        refine ⟨_, rfl, rfl, false, rfl, ?_⟩
        refine ⟨_, rfl, _, _, _, _, false, rfl, .ty _, .base (.bl _), kit_ty (by decide +kernel), false, rfl, ?_⟩
        refine ⟨_, rfl, _, _, _, _, true, rfl, .ty _, .base (.bl _), kit_ty (by decide +kernel), true, rfl, ?_⟩
        refine ⟨_, rfl, _, _, _, _, true, rfl, .ty _, .base (.bl _), kit_ty (by decide +kernel), _, rfl, _, _, _, _, true, rfl, .ty _, .base (.bl _), kit_ty (by decide +kernel), rfl, true, rfl, ?_⟩
        refine ⟨_, rfl, _, rfl, rfl, ?_⟩
        show Q (V.bl (decide (V.bl z = V.bl z))) H1
        rw [decide_eq_true rfl]
        exact q _ S1
      | int z =>
        subst hd2
        cases hx
        cases hy
        refine ⟨_, p, _, _, _, false, rfl, hp1, clsTL, .base (.int _), kA0 (kit_ty (by decide +kernel)) (kit_ty (by decide +kernel)), false, rfl, ?_⟩
        refine ⟨_, rfl, rfl, false, rfl, ?_⟩
        refine ⟨_, rfl, _, _, _, _, false, rfl, .ty _, .base (.int _), kit_ty (by decide +kernel), false, rfl, ?_⟩
        refine ⟨_, rfl, _, _, _, _, true, rfl, .ty _, .base (.int _), kit_ty (by decide +kernel), true, rfl, ?_⟩
        refine ⟨_, rfl, _, _, _, _, false, rfl, .ty _, .base (.int _), kit_ty (by decide +kernel), _, rfl, _, _, _, _, false, rfl, .ty _, .base (.int _), kit_ty (by decide +kernel), rfl, true, rfl, ?_⟩
        refine ⟨_, rfl, _, rfl, rfl, ?_⟩
        show Q (V.bl (decide (V.int z = V.int z))) H1
        rw [decide_eq_true rfl]
        exact q _ S1
end
end WayP
/-! what the law's own steps lean on -/
namespace Way
theorem IsFloor.fn {F : List Sq} {f g : Int × Int → Int} (a : IsFloor F f) (b : IsFloor F g) : f = g := by
  funext q
  obtain ⟨x, y⟩ := q
  by_cases h : f (x, y) = 0
  · by_cases h2 : g (x, y) = 0
    · rw [h, h2]
    · have := (a.mem x y _).mp ((b.mem x y _).mpr ⟨rfl, h2⟩)
      rw [this.1]
  · have := (b.mem x y _).mp ((a.mem x y _).mpr ⟨rfl, h⟩)
    rw [this.1]
theorem len_le {α : Type} [DecidableEq α] : ∀ {A B : List α}, A.Nodup → (∀ x ∈ A, x ∈ B) → A.length ≤ B.length
  | [], _, _, _ => Nat.zero_le _
  | a :: A, B, hn, hs => by
    obtain ⟨n1, n2⟩ := List.nodup_cons.mp hn
    have ha : a ∈ B := hs a List.mem_cons_self
    have := len_le (A := A) (B := B.erase a) n2 fun x hx => (List.mem_erase_of_ne (fun e => n1 (by rw [← e]; exact hx))).mpr (hs x (List.mem_cons_of_mem _ hx))
    rw [List.length_erase_of_mem ha] at this
    have : 0 < B.length := List.length_pos_of_mem ha
    show A.length + 1 ≤ B.length
    omega
theorem nodup_len {α : Type} [DecidableEq α] {A B : List α} (hA : A.Nodup) (h1 : ∀ x ∈ A, x ∈ B) (h2 : ∀ x ∈ B, x ∈ A) : A.length = B.length ↔ B.Nodup := by
  constructor
  · intro e
    rw [List.nodup_iff_count]
    intro x
    apply Classical.byContradiction
    intro hc
    have hx : x ∈ B := List.count_pos_iff.mp (by omega)
    have := len_le (A := A) (B := B.erase x) hA fun y hy => by
      by_cases e : y = x
      · rw [e]
        refine List.count_pos_iff.mp ?_
        rw [List.count_erase_self]
        omega
      · exact (List.mem_erase_of_ne e).mpr (h1 y hy)
    rw [List.length_erase_of_mem hx] at this
    have : 0 < B.length := List.length_pos_of_mem hx
    omega
  · intro hB
    exact Nat.le_antisymm (len_le hA h1) (len_le hB h2)
theorem dx_turn {h : Int} (a : 0 ≤ h) (b : h ≤ 3) : dx ((h + 2) % 4) = - dx h ∧ dy ((h + 2) % 4) = - dy h := by
  have : h = 0 ∨ h = 1 ∨ h = 2 ∨ h = 3 := by omega
  rcases this with rfl | rfl | rfl | rfl <;> exact ⟨rfl, rfl⟩
/-- where every key leads to one source, a step back is barred only by none -/
theorem srcs_one {t : Tab} {w : Wk} (G : (keys t).Nodup) : (srcs t (w.s, w.f (pre w)) = [] ∧ bwd t w = none) ∨ ∃ q, srcs t (w.s, w.f (pre w)) = [q] ∧ bwd t w = some (backBy t w q) := by
  have h := good_iff.mp G (w.s, w.f (pre w))
  unfold bwd
  cases e : srcs t (w.s, w.f (pre w)) with
  | nil => exact .inl ⟨rfl, rfl⟩
  | cons q l =>
    have h' : (q :: l).length ≤ 1 := by rw [← e]; exact h
    have : l = [] := List.length_eq_zero_iff.mp (by simpa using h')
    subst this
    exact .inr ⟨q, rfl, rfl⟩
end Way
namespace WayP
open PySem PySem.Spec PyProof.Rows L2 WayR Way
section
variable {P : Program} {w : World} {K : PySem.W.Frag} {mg : Str → Option Value} {base : Heap} {cW cE cN hA h0 h1 h2 h3 : Addr}
/-- a walk's end is well formed -/
theorem FloOk.of {t : Tab} {n : Nat} {B : Int} {w : Wk} {G : List Sq} (W : Ok t n B w) (iG : IsFloor G w.f) (hl : G.length ≤ 4000) : FloOk G n B := by
  refine ⟨iG.sorted, hl, fun q hq => ?_⟩
  obtain ⟨x, y, c⟩ := q
  obtain ⟨e, hc⟩ := (iG.mem x y c).mp hq
  have a := W.f0 (x, y)
  have b := W.f1 (x, y)
  have d := W.fb (x, y) (by rw [e]; exact hc)
  rw [e] at a b
  exact ⟨d.1, d.2, ⟨by show 1 ≤ c; omega, b⟩⟩
theorem WkOk.of {t : Tab} {n : Nat} {B : Int} {w : Wk} (W : Ok t n B w) : WkOk w.x w.y w.h w.s t B := ⟨⟨W.x0, W.x1⟩, ⟨W.y0, W.y1⟩, ⟨W.h0, W.h1⟩, ⟨W.s0, W.s1⟩⟩
/-- a list of pairs, by their tuples -/
theorem pairs_ks {H : Hp} : ∀ {l : List (Int × Int)} {xs : List V}, DaAll H xs (l.map pD) → ∃ ks : List (Addr × List Int), xs = ks.map (fun p => V.ref p.1) ∧ (∀ p ∈ ks, H p.1 = some (.tup (p.2.map V.int))) ∧ ks.map (·.2) = l.map (fun q => [q.1, q.2])
  | [], _, .nil => ⟨[], rfl, (fun _ h => by cases h), rfl⟩
  | q :: l, _, .cons h a => by
    obtain ⟨b, rfl, hb⟩ := h.ints
    obtain ⟨ks, e1, e2, e3⟩ := pairs_ks a
    refine ⟨(b, [q.1, q.2]) :: ks, by rw [e1]; rfl, fun p hp => ?_, by rw [List.map_cons, e3]; rfl⟩
    rcases List.mem_cons.mp hp with e | hp
    · rw [e]; exact hb
    · exact e2 p hp
theorem two_nodup {l : List (Int × Int)} : (l.map (fun q => [q.1, q.2])).Nodup ↔ l.Nodup := by
  have inj : ∀ a b : Int × Int, [a.1, a.2] = [b.1, b.2] → a = b := fun a b h => by
    injection h with h1 h2
    injection h2 with h2 _
    exact Prod.ext h1 h2
  constructor
  · intro h
    exact List.Pairwise.of_map _ (fun a b hne e => hne (by rw [e])) h
  · intro h
    exact List.Pairwise.map _ (fun a b hne e => hne (inj a b e)) h
/-- the length of the set tells whether the keys differ -/
theorem set_len {l : List (Int × Int)} {ks L : List (Addr × List Int)} (e : ks.map (·.2) = l.map (fun q => [q.1, q.2])) (h1 : ∀ p ∈ L, p ∈ ks) (h2 : ∀ p ∈ ks, p.2 ∈ L.map (·.2)) (hn : (L.map (·.2)).Nodup) : L.length = l.length ↔ l.Nodup := by
  have := nodup_len (A := L.map (·.2)) (B := l.map (fun q => [q.1, q.2])) hn (fun x hx => by
    obtain ⟨p, hp, rfl⟩ := List.mem_map.mp hx
    rw [← e]
    exact List.mem_map.mpr ⟨p, h1 p hp, rfl⟩) (fun x hx => by
    rw [← e] at hx
    obtain ⟨p, hp, rfl⟩ := List.mem_map.mp hx
    exact h2 p hp)
  rw [List.length_map, List.length_map] at this
  exact this.trans two_nodup
/-- the dict of a floor -/
abbrev pk (q : Sq) (t b : Addr) : PairK := ⟨t, kk (q.1, q.2.1), b, .int q.2.2⟩
theorem putAll_snoc (acc : List (List Key × V)) (ps : List PairK) (p : PairK) : WayR.putAll acc (ps ++ [p]) = putK (WayR.putAll acc ps) p.k p.v := by
  unfold WayR.putAll
  rw [List.foldl_append]
  rfl
/-- what stands at D behind i squares of a floor: pairs (place, colour) -/
inductive Prs (H : Hp) : List Sq → List PairK → Prop
  | nil : Prs H [] []
  | snoc {F : List Sq} {ps : List PairK} {q : Sq} {t b : Addr} : Prs H F ps → H t = some (.tup [.ref b, .int q.2.2]) → H b = some (.tup [.int q.1, .int q.2.1]) → Prs H (F ++ [q]) (ps ++ [pk q t b])
theorem Prs.tk {H H' : Hp} (tk : TK H H') {F : List Sq} {ps : List PairK} (h : Prs H F ps) : Prs H' F ps := by
  induction h with
  | nil => exact .nil
  | snoc _ h1 h2 ih => exact .snoc ih (tk _ _ h1) (tk _ _ h2)
theorem Prs.sq {H : Hp} {F : List Sq} {ps : List PairK} (h : Prs H F ps) : SqK (WayR.putAll [] ps) (sqF F) ∧ ps.length = F.length := by
  induction h with
  | nil => exact ⟨SqK.nil, rfl⟩
  | snoc _ h1 h2 ih =>
    rw [putAll_snoc, sqF_snoc]
    refine ⟨ih.1.put _ _, ?_⟩
    rw [List.length_append, List.length_append, ih.2]
    rfl
theorem Prs.ok {H : Hp} {F : List Sq} {ps : List PairK} (h : Prs H F ps) : ∀ p ∈ ps, SqT K H p.t [V.ref p.b, p.v] ∧ H p.b = some (.tup (p.k.map kV)) := by
  induction h with
  | nil => exact fun _ h => by cases h
  | snoc _ h1 h2 ih =>
    intro p hp
    rcases List.mem_append.mp hp with z | z
    · exact ih p z
    · rw [List.mem_singleton.mp z]
      exact ⟨SqT.of h1, h2⟩
/-! ### except WalkError as error -/
def rIsX (K : PySem.W.Frag) (D : Addr) (a : Addr) (cls : Value) (d : Option Addr) : List V → Hp → VK → Prop := fun xs H Q => cls = .ref D ∧ d = none ∧ rIsE K D a xs H Q
theorem call_isX {X : Cx} {a D : Addr} {oe : Obj} {cls : Value} {d : Option Addr} {pn : List (Addr × Obj)} (C : ExcC X.K D) (hz : Zc cls d oe) (hf : ∃ vs, oe.data = .fields vs) : CallR (X.suite a ((a, oe) :: pn)) (.builtin "isinstance") (rIsX X.K D a cls d) := by
  rintro pins s σ H xs us Q I r ⟨rfl, rfl, h⟩
  exact call_isE C hz hf pins s σ H xs us Q I r h
/-- told = 'none' if isinstance(error, NoWayBack) else 'other' -/
def tSuite (K : PySem.W.Frag) (cN : Addr) : Addr → Value → Option Addr → TS := fun a cls d => tAsg (tIf (tB (tCB (rIsX K cN a cls d) (tCons (tVar 12) (tCons (tC (.ref cN)) tNil)))) (tC (.str "none")) (tC (.str "other"))) (gName 11)
end
end WayP
/-! the law -/
namespace WayP
open PySem PySem.Spec PyProof.Rows L2 WayR Way
section
variable {P : Program} {w : World} {K : PySem.W.Frag} {mg : Str → Option Value} {base : Heap} {cW cE cN hA h0 h1 h2 h3 : Addr}
def spLaw (K : PySem.W.Frag) : Sp := fun vs H Q _ => ∃ (a : Addr) (ns : List Int), vs = [.ref a] ∧ SqL K H a (ns.map V.int) ∧ ns.length ≤ 63 ∧ ∀ H', Q (.bl true) H'
/-- what told and before are to be -/
def toldD (o : Option Wk) (dd : D) : Prop := (o = none ∧ dd = .str "none") ∨ ∃ (w' : Wk) (G : List Sq), o = some w' ∧ IsFloor G w'.f ∧ dd = .tup [floD G, wkD w'.x w'.y w'.h w'.s]
theorem dp_ints (ns : List Int) : dp (iD ns) ≤ 1 ∧ wd (iD ns) ≤ ns.length := by
  have h : ∀ ns : List Int, dpAll (ns.map D.int) = 0 ∧ wdAll (ns.map D.int) = 0 := fun ns => by
    induction ns with
    | nil => exact ⟨rfl, rfl⟩
    | cons n ns ih =>
      obtain ⟨a, b⟩ := ih
      exact ⟨by show max 0 (dpAll (ns.map D.int)) = 0; omega, by show max 0 (wdAll (ns.map D.int)) = 0; omega⟩
  obtain ⟨a, b⟩ := h ns
  refine ⟨by show dpAll (ns.map D.int) + 1 ≤ 1; omega, ?_⟩
  show max (ns.map D.int).length (wdAll (ns.map D.int)) ≤ ns.length
  rw [List.length_map]
  omega
theorem dp_flo (F : List Sq) : dp (floD F) ≤ 2 ∧ wd (floD F) ≤ max F.length 3 := by
  have h : ∀ F : List Sq, dpAll (F.map sqD) ≤ 1 ∧ wdAll (F.map sqD) ≤ 3 := fun F => by
    induction F with
    | nil => exact ⟨Nat.zero_le _, Nat.zero_le _⟩
    | cons q F ih =>
      obtain ⟨a, b⟩ := ih
      obtain ⟨c, d⟩ := dp_ints [q.1, q.2.1, q.2.2]
      have d : wd (sqD q) ≤ 3 := d
      have c : dp (sqD q) ≤ 1 := c
      exact ⟨by show max (dp (sqD q)) (dpAll (F.map sqD)) ≤ 1; omega, by show max (wd (sqD q)) (wdAll (F.map sqD)) ≤ 3; omega⟩
  obtain ⟨a, b⟩ := h F
  refine ⟨by show dpAll (F.map sqD) + 1 ≤ 2; omega, ?_⟩
  show max (F.map sqD).length (wdAll (F.map sqD)) ≤ max F.length 3
  rw [List.length_map]
  omega
theorem dp_told (F : List Sq) (x y h s : Int) (hl : F.length ≤ 100) : dp (.tup [floD F, wkD x y h s]) ≤ 3 ∧ wd (.tup [floD F, wkD x y h s]) ≤ 5000 := by
  obtain ⟨a, b⟩ := dp_flo F
  obtain ⟨c, d⟩ := dp_ints [x, y, h, s]
  have d : wd (wkD x y h s) ≤ 4 := d
  have c : dp (wkD x y h s) ≤ 1 := c
  refine ⟨?_, ?_⟩
  · show max (dp (floD F)) (max (dp (wkD x y h s)) 0) + 1 ≤ 3
    omega
  · show max 2 (max (wd (floD F)) (max (wd (wkD x y h s)) 0)) ≤ 5000
    omega
theorem body_law (T : Txt K mg cW cE cN hA h0 h1 h2 h3) {f : Addr} {cdv : Value} {A : Around} {outer : List Env} {s : Shared} {H : Hp} {vs : List V} {Q : VK} {E : XK} (hr : Room 7 (A.deeper (envOfC "law" (defScope s_law) s.heap.objs.size f cdv))) (h : spLaw K vs H Q E) :
    ∃ t, PSs (cxOf CX0 P w K mg base nm_law "law" (defScope s_law) f cdv A outer s H E).nox (defBody s_law) t ∧ t { nx := fun _ H' => Q .non H', rt := Q } (start nm_law vs) H := by
  obtain ⟨a, ns, rfl, hS, hlen, q⟩ := h
  have hu := hu_of hr
  refine ⟨_, pss_cons (ps_set (i := 1) sc_law.nd rfl (Or.inl rfl) (pe_lst (pa_cons (pv 0) (pa_cons (pe_int) (pa_cons (pe_int) (pa_cons (pe_int) pa_nil))))))
      (pss_cons (ps_set (i := 2) sc_law.nd rfl (Or.inl rfl) (C8.pe_c (ok__law_pick T) hr (by decide) rfl (pa_cons (pv 1) (pa_cons (pe_lst (pa_cons (C8.pe_c (ok__law_table T) hr (by decide) rfl (pa_cons (pv 1) pa_nil)) (pa_cons (C8.pe_c (ok__law_undone_table T) hr (by decide) rfl (pa_cons (pv 1) pa_nil)) pa_nil))) pa_nil))))
      (pss_cons (ps_set (i := 3) sc_law.nd rfl (Or.inl rfl) (pe_lst pa_nil))
      (pss_cons (ps_for PassesOwn.never rfl (pi_tup (pv 2)) (pg_name (i := 4) sc_law.nd rfl (Or.inl rfl))
        (pss_one (ps_set (i := 3) sc_law.nd rfl (Or.inl rfl) (pe_op op_cat (pv 3) (pe_lc (own := [("_law_one", 5)]) (g := gName 5) rfl sc_law.nd (pi_tup (pv 4)) (blkOk_by (own := [("_law_one", 5)]) (N := nm_law) (sc := defScope s_law) (by decide +kernel)) (fun _ _ _ _ _ => pg_name (i := 5) sc_law.nd rfl (Or.inl rfl)) (fun _ _ _ _ _ => pts_one (pt_cmpR op_notN (pv 5) pe_non (nomark _))) (fun _ _ _ _ _ => (pe_tup (pa_cons (pe_ix (r := rIxT K) ix_tup (pv 5) (pe_int) (fun _ _ => rfl)) (pa_cons (pe_ix (r := rIxT K) ix_tup (pv 5) (pe_int) (fun _ _ => rfl)) pa_nil)))))))))
      (C8.pss_cut (ps_set (i := 6) sc_law.nd rfl (Or.inl rfl) (pe_cmpR op_eq (pe_callB call_lenSetT (by rfl) T.zlen PySem.boot_len (pa_cons (pe_callTy (cr_setOfT rfl hr.units) (by rfl) T.zset (by decide +kernel) (pa_cons (pv 3) pa_nil)) pa_nil)) (pe_callB call_len_seq (by rfl) T.zlen PySem.boot_len (pa_cons (pv 3) pa_nil)) (nomark _)))
      (pss_cons (ps_if (pt_not (pt_val (C8.pe_c (ok__law_alike T 4) hr (by decide) rfl (pa_cons (C8.pe_c (ok_can_be_undone T) hr (by decide) rfl (pa_cons (pv 2) pa_nil)) (pa_cons (pv 6) pa_nil)))))
        (pss_one (ps_ret (pe_bl)))
        pss_nil)
      (pss_cons (ps_par3 (i := 7) (j := 8) (l := 9) rfl sc_law.nd rfl rfl rfl (by decide) (by decide) (by decide) rfl rfl rfl (pa_cons (C8.pe_c (ok__law_some_floor T) hr (by decide) rfl (pa_cons (pv 1) (pa_cons (pe_callB call_len_seq (by rfl) T.zlen PySem.boot_len (pa_cons (pe_ix ix_tup (pv 2) (pe_int) (fun _ _ => rfl)) pa_nil)) (pa_cons (pe_int) pa_nil)))) (pa_cons (C8.pe_c (ok__law_walker T) hr (by decide) rfl (pa_cons (pv 1) (pa_cons (pv 2) pa_nil))) (pa_cons (C8.pe_c (ok__law_taken T) hr (by decide) rfl (pa_cons (pv 1) (pa_cons (pe_int) pa_nil))) pa_nil))) (by rfl))
      (pss_cons (ps_set (i := 10) sc_law.nd rfl (Or.inl rfl) (C8.pe_c (ok_walk T) hr (by decide) rfl (pa_cons (pv 2) (pa_cons (pv 7) (pa_cons (pv 8) (pa_cons (pv 9) pa_nil))))))
      (pss_cons (ps_set (i := 11) sc_law.nd rfl (Or.inl rfl) (pe_non))
      (C8.pss_cut (ps_try_as (i := 12) (tb := fun W => tAsg (tCallS (spBack cN) (WE W) (tCons (tVar 2) (tCons (tOp (rIxT K) (tVar 10) (tC (.int 0))) (tCons (tOp (rIxT K) (tVar 10) (tC (.int 1))) (tCons (tOp (rIxT K) (tVar 10) (tC (.int 2))) tNil))))) (gName 11)) (ts := tSuite K cN) (Wout := fun _ _ _ _ => False) rfl rfl sc_law.nd rfl rfl ⟨rfl, by decide, Or.inl T.mE⟩ takes0
        (fun W pn xe tk _ => pss_one (ps_set (i := 11) sc_law.nd rfl (Or.inl rfl) (by exact (pe_cX (ok_back T) hr (by decide) rfl tk (by exact (pa_cons (pv 2) (pa_cons (pe_ix (r := rIxT K) ix_tup (pv 10) (pe_int) (fun _ _ => rfl)) (pa_cons (pe_ix (r := rIxT K) ix_tup (pv 10) (pe_int) (fun _ _ => rfl)) (pa_cons (pe_ix (r := rIxT K) ix_tup (pv 10) (pe_int) (fun _ _ => rfl)) pa_nil)))))))))
        (fun a oe cls d pn hz hf => pss_one (ps_set (i := 11) sc_law.nd rfl (Or.inl rfl) (pe_ifExp (pt_val (pe_callB (call_isX T.eN hz hf) (by rfl) T.zisinstance (by decide +kernel) (pa_cons (pv 12) (pa_cons (pe_glob (v := .ref cN) rfl T.mN rfl) pa_nil)))) pe_str pe_str))))
      (pss_cons (ps_if (pt_not (pt_val (C8.pe_c (ok__law_alike T 4) hr (by decide) rfl (pa_cons (pv 11) (pa_cons (pe_ifExp (pt_val (pv 6)) (pe_tup (pa_cons (pv 7) (pa_cons (pv 8) pa_nil))) (pe_str)) pa_nil)))))
        (pss_one (ps_ret (pe_bl)))
        pss_nil)
      (pss_cons (ps_if (pt_not (pt_val (pv 6)))
        (pss_one (ps_ret (pe_bl)))
        pss_nil)
      (pss_cons (ps_par3 (i := 13) (j := 14) (l := 15) rfl sc_law.nd rfl rfl rfl (by decide) (by decide) (by decide) rfl rfl rfl (pa_cons (pe_non) (pa_cons (pe_op op_add (pe_int) (C8.pe_c (ok__law_taken T) hr (by decide) rfl (pa_cons (pv 1) (pa_cons (pe_int) pa_nil)))) (pa_cons (pe_callTy (call_dictPT rfl hr.units) (by rfl) T.zdict (by decide +kernel) (pa_cons (pe_lc (own := [("_law_square", 16)]) (g := gName 16) (tt := tYes) rfl sc_law.nd (pi_tup (pv 7)) (blkOk_by (own := [("_law_square", 16)]) (N := nm_law) (sc := defScope s_law) (by decide +kernel)) (fun _ _ _ _ _ => pg_name (i := 16) sc_law.nd rfl (Or.inl rfl)) (fun _ _ _ _ _ => pts_nil) (fun _ _ _ _ _ => (pe_tup (pa_cons (pe_slice (r := rSlA K) sl_tupA (pv 16) po_none (po_some (pe_int))) (pa_cons (pe_ix (r := rIxT K) ix_tup (pv 16) (pe_int) (fun _ _ => rfl)) pa_nil))))) pa_nil)) pa_nil))) (by rfl))
      (pss_cons (ps_set (i := 17) sc_law.nd rfl (Or.inl rfl) (pv 8))
      (pss_cons (ps_for PassesOwn.never rfl (pi_range1 rfl T.zrange (pa_cons (pv 14) pa_nil)) (pg_name (i := 18) sc_law.nd rfl (Or.inl rfl))
        (pss_one (ps_if (pt_cmpR op_notN (pv 17) pe_non (nomark _))
          (pss_cons (ps_set (i := 19) sc_law.nd rfl (Or.inl rfl) (C8.pe_c (ok__law_ahead T) hr (by decide) rfl (pa_cons (pe_slice sl_tupA (pv 17) po_none (po_some (pe_int))) (pa_cons (pe_op op_mod (pe_callTy call_int1 (by rfl) T.zint (by decide +kernel) (pa_cons (pe_op op_add (pe_ix ix_tup (pv 17) (pe_int) (fun _ _ => rfl)) (pe_int)) pa_nil)) (pe_int)) pa_nil))))
          (pss_cons (ps_set (i := 20) sc_law.nd rfl (Or.inl rfl) (C8.pe_c (ok__law_sources T) hr (by decide) rfl (pa_cons (pv 2) (pa_cons (pe_ix ix_tup (pv 17) (pe_int) (fun _ _ => rfl)) (pa_cons (pe_dget2 hu (pv 15) (pv 19) (pe_int) ⟨rfl, rfl, rfl, rfl⟩) pa_nil)))))
          (pss_one (ps_if (pt_cmpR (op_eqD hr.units) (pv 20) (pe_lst pa_nil) (nomark _))
            (pss_one (ps_set (i := 17) sc_law.nd rfl (Or.inl rfl) (pe_non)))
            (pss_cons (ps_dput hu (pv 15) (pv 19) (pe_ix ix_tup (pe_ix ix_list (pv 20) (pe_int) (fun _ _ => rfl)) (pe_int) (fun _ _ => rfl)) rfl)
            (pss_one (ps_set (i := 17) sc_law.nd rfl (Or.inl rfl) (pe_op op_catA (pv 19) (pe_tup (pa_cons (pe_op op_mod (pe_callTy call_int1 (by rfl) T.zint (by decide +kernel) (pa_cons (pe_op op_sub (pe_ix ix_tup (pv 17) (pe_int) (fun _ _ => rfl)) (pe_ix ix_tup (pe_ix ix_tup (pe_ix ix_tup (pv 2) (pe_ix ix_tup (pe_ix ix_list (pv 20) (pe_int) (fun _ _ => rfl)) (pe_int) (fun _ _ => rfl)) (fun _ _ => rfl)) (pe_ix ix_tup (pe_ix ix_list (pv 20) (pe_int) (fun _ _ => rfl)) (pe_int) (fun _ _ => rfl)) (fun _ _ => rfl)) (pe_int) (fun _ _ => rfl))) pa_nil)) (pe_int)) (pa_cons (pe_ix ix_tup (pe_ix ix_list (pv 20) (pe_int) (fun _ _ => rfl)) (pe_int) (fun _ _ => rfl)) pa_nil)))))))))))
          pss_nil)))
      (C8.pss_cut (ps_set (i := 13) sc_law.nd rfl (Or.inl rfl) (pe_ifExp (pt_cmpR op_isN (pv 17) pe_non (nomark _)) (pe_str) (pe_tup (pa_cons (C8.pe_c (ok__law_floor T) hr (by decide) rfl (pa_cons (pv 15) pa_nil)) (pa_cons (pv 17) pa_nil)))))
      (C8.pss_cut (ps_try_as (i := 12) (tb := fun W => tAsg (tCallS (spBack cN) (WE W) (tCons (tVar 2) (tCons (tVar 7) (tCons (tVar 8) (tCons (tVar 14) tNil))))) (gName 11)) (ts := tSuite K cN) (Wout := fun _ _ _ _ => False) rfl rfl sc_law.nd rfl rfl ⟨rfl, by decide, Or.inl T.mE⟩ takes0
        (fun W pn xe tk _ => pss_one (ps_set (i := 11) sc_law.nd rfl (Or.inl rfl) (by exact (pe_cX (ok_back T) hr (by decide) rfl tk (by exact (pa_cons (pv 2) (pa_cons (pv 7) (pa_cons (pv 8) (pa_cons (pv 14) pa_nil)))))))))
        (fun a oe cls d pn hz hf => pss_one (ps_set (i := 11) sc_law.nd rfl (Or.inl rfl) (pe_ifExp (pt_val (pe_callB (call_isX T.eN hz hf) (by rfl) T.zisinstance (by decide +kernel) (pa_cons (pv 12) (pa_cons (pe_glob (v := .ref cN) rfl T.mN rfl) pa_nil)))) pe_str pe_str))))
      (pss_one (ps_ret (C8.pe_c (ok__law_alike T 4) hr (by decide) rfl (pa_cons (pv 11) (pa_cons (pv 13) pa_nil))))))))))))))))))))), ?_⟩
  refine ⟨_, rfl, (by show 4 ≤ sizeLine; decide), fun r hr0 => ?_⟩
  have S1 := Same.new (u := .lst [.ref a, .int 0, .int 11103, .int 0]) hr0
  have R1 : Row K a r (upd H r (.lst [.ref a, .int 0, .int 11103, .int 0])) := ⟨⟨0, 11103, 0, upd_same, by decide, by decide, by decide⟩, ns, S1.seq hS⟩
  generalize upd H r (.lst [.ref a, .int 0, .int 11103, .int 0]) = H1 at R1
  -- the table
  refine ⟨_, rfl, _, rfl, r, a, rfl, R1, fun v1 t1 n1 H2 okt1 l1 m1 k2 R2 d1 => ?_⟩
  refine ⟨_, rfl, r, a, rfl, R2, fun v2 t2 n2 H3 okt2 l2 m2 k3 R3 d2 => ⟨(by show 2 ≤ sizeLine; decide), fun p hp => ?_⟩⟩
  have S3 := Same.new (u := .lst [v1, v2]) hp
  have npr : p ≠ r := by
    obtain ⟨xs, e⟩ := R3.lst
    exact (ne_of_none e hp).symm
  refine ⟨r, a, p, [v1, v2], rfl, R3.same S3, upd_same, npr, (by show 0 < 2; decide), (by show 2 ≤ 1000; decide), fun i tv H5 hi k5 R5 => ?_⟩
  obtain ⟨t, n, okt, tl, nl, ht⟩ : ∃ (t : Tab) (n : Nat), Way.TabOk t n ∧ t.length ≤ 2 ∧ n ≤ 3 ∧ Da H5 tv (tabD t) := by
    have tk5 := (R3.same S3).tk k5
    cases i with
    | zero =>
      cases Option.some.inj hi
      exact ⟨t1, n1, okt1, l1, m1, ((d1.tk (R2.tk k3)).tk (TK.of S3)).tk tk5⟩
    | succ i =>
      cases i with
      | zero =>
        cases Option.some.inj hi
        exact ⟨t2, n2, okt2, l2, m2, (d2.tk (TK.of S3)).tk tk5⟩
      | succ i => cases hi
  clear okt1 okt2 d1 d2 k5 S3 k2 k3 R2 R3
  obtain ⟨ta, ts, rfl, hta, htl, hget, hget'⟩ := ht.map
  -- the pairs
  refine ⟨Nat.zero_le _, fun p0 hp0 => ?_⟩
  have S5 := Same.new (u := .lst []) hp0
  refine ⟨_, rfl, ta, rfl, ⟨_, SqT.of (S5 _ _ hta)⟩, for_tup (xs := ts) (fun i σ H' => ∃ (l : Addr) (v4 : Option V) (xs : List V), σ = [some (.ref a), some (.ref r), some (.ref ta), some (.ref l), v4, none, none, none, none, none, none, none, none, none, none, none, none, none, none, none, none] ∧ Same H5 H' ∧ H' l = some (.lst xs) ∧ DaAll H' xs ((keysOf (tabCells 0 (t.take i))).map pD))
    ⟨p0, _, [], rfl, S5, upd_same, .nil⟩ (fun i σ H' _ ⟨_, _, _, _, s0, _⟩ => SqT.of (s0 _ _ hta)) ?_ ?_⟩
  · rintro i y σ H6 hi ⟨l, v4, xs, rfl, s6, hl, hdx⟩
    obtain ⟨rw', hrw, hdr⟩ := hget' i y hi
    obtain ⟨b, ys, rfl, hb, hyl, _, hgr⟩ := hdr.map
    have rl : rw'.length = n := okt.rows rw' (List.mem_of_getElem? hrw)
    refine ⟨_, rfl, _, rfl, b, rfl, ⟨_, SqT.of (s6 _ _ hb)⟩, fun Dl hD => ?_⟩
    refine lc_tup (xs := ys) (fun j H' => Same H6 H' ∧ ∃ acc, H' Dl = some (.lst acc) ∧ DaAll H' acc ((keysOf (rowCells i 0 (rw'.take j))).map pD) ∧ acc.length ≤ j)
      ⟨Same.new hD, [], upd_same, .nil, Nat.le_refl _⟩ (fun j H' _ h => SqT.of (h.1 _ _ (s6 _ _ hb))) ?_ ?_
    · rintro j z H7 hj ⟨s7, acc, hacc, hda, hal⟩
      obtain ⟨o, ho, hz⟩ := hgr j z hj
      have jl := (List.getElem?_eq_some_iff.mp ho).1
      have s57 := s6.trans s7
      rw [rowCells_take ho, keysOf_append]
      refine ⟨rfl, ?_⟩
      cases o with
      | none =>
        cases hz
        refine ⟨_, rfl, rfl, _, rfl, s7, acc, hacc, ?_, Nat.le_succ_of_le hal⟩
        rw [show keysOf [(((i : Int), (j : Int)), (none : Option Ent))] = [] from rfl, List.append_nil]
        exact hda
      | some e =>
        obtain ⟨be, rfl, he⟩ := hz.ints
        have he7 := s57 _ _ he
        refine ⟨_, rfl, rfl, _, rfl, ?_⟩
        refine ifT rfl ?_
        refine ⟨_, rfl, be, _, _, _, rfl, rfl, SqT.of he7, rfl, _, rfl, be, _, _, _, rfl, rfl, SqT.of he7, rfl, (by show 2 ≤ sizeLine; decide), fun p1 hp1 => ?_⟩
        have S := Same.new (u := .tup [.int e.2.2, .int e.1]) hp1
        refine ⟨acc, upk hp1 hacc, big1000 (by omega), Same.put (s7.trans S) hD, _, upd_same, ?_, by rw [List.length_append]; exact Nat.succ_le_succ hal⟩
        rw [show keysOf [(((i : Int), (j : Int)), some e)] = [(e.2.2, e.1)] from rfl, List.map_append]
        have tk : TK (upd H7 p1 (.tup [.int e.2.2, .int e.1])) (upd (upd H7 p1 (.tup [.int e.2.2, .int e.1])) Dl (.lst (acc ++ [.ref p1]))) := TK.at (upk hp1 hacc) fun _ z => by cases z
        exact ((hda.tk (TK.of S)).tk tk).snoc (Da.of_ints (ns := [e.2.2, e.1]) (tk _ _ upd_same))
    · rintro H7 ⟨s7, acc, hacc, hda, hal⟩
      rw [take_all (l := rw') (by omega)] at hda
      have hxl : xs.length ≤ 66 := by
        rw [hdx.length, List.length_map]
        refine Nat.le_trans (List.length_filterMap_le _ _) ?_
        rw [tabCells_len (n := n) (t.take i) 0 (fun r hr => okt.rows r (List.mem_of_mem_take hr)), List.length_take]
        have : min i t.length * n ≤ 2 * 3 := Nat.mul_le_mul (by omega) nl
        omega
      refine ⟨l, Dl, xs, acc, rfl, rfl, s7 _ _ hl, hacc, Nat.le_trans (by show xs.length + acc.length ≤ 100; omega) (by decide), fun p1 hp1 => ?_⟩
      have S := Same.new (u := .lst (xs ++ acc)) hp1
      refine ⟨p1, _, _, rfl, (s6.trans s7).trans S, upd_same, ?_⟩
      rw [tabCells_take hrw, keysOf_append, List.map_append]
      have app : ∀ {vs : List V} {ds : List D} {vs' : List V} {ds' : List D}, DaAll (upd H7 p1 (.lst (xs ++ acc))) vs ds → DaAll (upd H7 p1 (.lst (xs ++ acc))) vs' ds' → DaAll (upd H7 p1 (.lst (xs ++ acc))) (vs ++ vs') (ds ++ ds') := by
        intro vs ds vs' ds' h h'
        induction vs generalizing ds with
        | nil => cases h; exact h'
        | cons v vs ih =>
          cases h with
          | cons h1 h2 => exact .cons h1 (ih h2)
      exact app ((hdx.tk (TK.of s7)).tk (TK.of S)) (hda.tk (TK.of S))
  · rintro σ H6 ⟨l, v4, xs, rfl, s6, hl, hdx⟩
    rw [take_all (l := t) (by omega)] at hdx
    have hdx : DaAll H6 xs ((keys t).map pD) := hdx
    have R6 := R5.same s6
    have ht6 := ht.tk (TK.of s6)
    -- good
    refine ⟨fun σ' H' => σ' = [some (.ref a), some (.ref r), some (.ref ta), some (.ref l), v4, none, some (.bl (decide (keys t).Nodup)), none, none, none, none, none, none, none, none, none, none, none, none, none, none] ∧ Same H6 H', ?_, ?_⟩
    · obtain ⟨ks, e1, e2, e3⟩ := pairs_ks hdx
      have kl : ks.length = (keys t).length := by rw [← List.length_map (f := fun p : Addr × List Int => p.2), e3, List.length_map]
      have kl2 : (keys t).length ≤ 60 := Nat.le_trans (List.length_filterMap_le _ _) (cells_len okt)
      refine ⟨_, rfl, l, ks, rfl, SqL.of (by rw [← e1]; exact hl), fun p hp => SqT.of (e2 p hp), by omega, fun sa L hsa hL1 hL2 => ?_⟩
      have S := Same.new (u := SetTO P w sa L) hsa
      refine ⟨sa, L, rfl, upd_same, fun p hp => SqT.of (S _ _ (e2 p (hL1 p hp))), fun hn => ?_⟩
      refine ⟨_, rfl, l, xs, rfl, .inl (SqL.of (S _ _ hl)), rfl, ?_⟩
      refine ⟨?_, S⟩
      have hx : xs.length = (keys t).length := by rw [hdx.length, List.length_map]
      have e : decide (V.int (L.length : Int) = V.int ((xs.length : Nat) : Int)) = decide (keys t).Nodup := by
        refine decide_eq_decide.mpr ?_
        rw [hx, ← set_len e3 hL1 hL2 hn]
        constructor
        · intro z
          injection z with z
          omega
        · intro z
          rw [z]
      show _ = _
      rw [← e]
      rfl
    · rintro σ' H7 ⟨rfl, s7⟩
      have s57 := s6.trans s7
      have ht7 := ht.tk (TK.of s57)
      obtain ⟨r0, hrow0⟩ : ∃ r0, t[0]? = some r0 := ⟨t[0]'(by have := okt.s1; omega), List.getElem?_eq_getElem _⟩
      obtain ⟨x0, hx0, hd0⟩ := hget 0 r0 hrow0
      obtain ⟨b0, ys0, rfl, hb0, hl0, _⟩ := hd0.map
      have l0 : ys0.length = n := hl0.trans (okt.rows r0 (List.mem_of_getElem? hrow0))
      have n1' := okt.c1
      refine ⟨_, rfl, .ref ta, t, n, rfl, ht7, okt, fun H8 s8 => ?_⟩
      refine ⟨_, rfl, _, _, .bl (decide (keys t).Nodup), rfl, .bl _, .bl _, (by show 0 ≤ 3; decide), (by show 0 ≤ 5000; decide), fun H9 s9 => ⟨true, rfl, ?_⟩⟩
      have s59 := (s57.trans s8).trans s9
      have R9 := R5.same s59
      have ht9 := ht.tk (TK.of s59)
      -- floor, walker, many
      refine ⟨_, rfl, _, rfl, ta, _, _, _, rfl, rfl, SqT.of (s59 _ _ hta), atI_nat hx0, _, _, rfl, .inr (SqT.of (s59 _ _ hb0)), r, a, n, 6, (by rw [l0]; rfl), R9, n1', by omega, by decide, by decide, fun gv F H10 okf fl k10 R10 hg10 => ?_⟩
      refine ⟨_, rfl, _, rfl, r, a, .ref ta, t, n, rfl, R10, ht9.tk (R9.tk k10), okt, fun wv x y h z H11 okw k11 R11 hw11 => ?_⟩
      refine ⟨_, rfl, r, a, 80, rfl, R11, by decide, by decide, fun m H12 m0 m1 k12 R12 => ⟨_, _, _, rfl, ?_⟩⟩
      obtain ⟨M, rfl⟩ : ∃ M : Nat, m = (M : Int) := ⟨m.toNat, by omega⟩
      have kA := (k10.trans k11).trans k12
      have ht12 := ht9.tk (R9.tk kA)
      have hg12 := hg10.tk (R10.tk (k11.trans k12))
      have hw12 := hw11.tk (R11.tk k12)
      have hB : (3 : Int) ≤ Bg := by decide
      -- walk
      refine ⟨_, rfl, _, rfl, _, rfl, _, rfl, .ref ta, gv, wv, t, n, M, F, x, y, h, z, rfl, ht12, okt, hg12, okf.mono hB, hw12, okw.mono hB, by omega, by omega, fun av u v G H13 s13 hav hG iG lG hW => ?_⟩
      have R13 := R12.same s13
      have ht13 := ht12.tk (TK.of s13)
      have hg13 := hg12.tk (TK.of s13)
      have hw13 := hw12.tk (TK.of s13)
      have ok0 : Ok t n 3 ⟨sqF F, x, y, h, z⟩ := ok_start okt okf okw
      obtain ⟨ok1, kM⟩ := fwdN_ok okt M ok0
      have hun : (keys t).Nodup → bwdN t (fwdN t M ⟨sqF F, x, y, h, z⟩).2 (fwdN t M ⟨sqF F, x, y, h, z⟩).1 = some ⟨sqF F, x, y, h, z⟩ := fun g => undo okt g M ok0
      generalize fwdN t M ⟨sqF F, x, y, h, z⟩ = wk at ok1 kM hun hav iG hW
      obtain ⟨w1, kd⟩ := wk
      have kM : kd ≤ M := kM
      have ok1 : Ok t n (3 + (M : Int)) w1 := ok1
      have okG : FloOk G n Bg := (FloOk.of ok1 iG (by omega)).mono (by show 3 + (M : Int) ≤ 10 ^ 60; omega)
      have okw1 : WkOk w1.x w1.y w1.h w1.s t Bg := (WkOk.of ok1).mono (by show 3 + (M : Int) ≤ 10 ^ 60; omega)
      have ew : (⟨sqF G, w1.x, w1.y, w1.h, w1.s⟩ : Wk) = w1 := by
        rw [IsFloor.fn okG.fl iG]
      have hun : (keys t).Nodup → bwdN t kd w1 = some ⟨sqF F, x, y, h, z⟩ := hun
      -- the first way back
      refine ⟨fun σ' H' => ∃ told, σ' = [some (.ref a), some (.ref r), some (.ref ta), some (.ref l), v4, none, some (.bl (decide (keys t).Nodup)), some gv, some wv, some (.int (M : Int)), some (.ref av), some told, none, none, none, none, none, none, none, none, none] ∧ Same H13 H' ∧ Da H' told (if (keys t).Nodup then .tup [floD F, wkD x y h z] else .str "none"), ?_, ?_⟩
      · refine ⟨_, rfl, _, rfl, av, _, _, _, rfl, rfl, SqT.of hav, rfl, _, rfl, av, _, _, _, rfl, rfl, SqT.of hav, rfl, _, rfl, av, _, _, _, rfl, rfl, SqT.of hav, rfl, ?_⟩
        refine ⟨.ref ta, u, v, t, n, kd, G, w1.x, w1.y, w1.h, w1.s, rfl, ht13, okt, hG, okG, hW, okw1, by omega, by omega, fun bad H14 s14 => ?_, fun good hn H14 s14 => ?_, fun w' good hw' v' G' H14 s14 hv' iG' => ?_⟩
        · refine ⟨true, T.nE, fun _ a0 ha0 => ?_, fun z => by cases z⟩
          refine ⟨_, rfl, rfl, rfl, .ref cN, .ref cN, true, rfl, (fun u hu => hu), T.iN, true, rfl, ?_⟩
          exact ⟨_, rfl, s14, by rw [if_neg bad]; exact .str _⟩
        · rw [ew, hun good] at hn
          cases hn
        · rw [ew, hun good] at hw'
          cases Option.some.inj hw'
          have eG : G' = F := iG'.unique okf.fl
          refine ⟨_, rfl, s14, ?_⟩
          rw [if_pos good, ← eG]
          exact hv'
      · rintro σ' H14 ⟨told, rfl, s14, htold⟩
        by_cases good : (keys t).Nodup
        · rw [if_pos good] at htold
          obtain ⟨dl, wl⟩ := dp_told F x y h z (by omega)
          refine ⟨_, rfl, _, rfl, _, rfl, ?_⟩
          refine ifT (decide_eq_true good) ⟨_, rfl, _, rfl, (by show 2 ≤ sizeLine; decide), fun p1 hp1 => ?_⟩
          have S := Same.new (u := .tup [gv, wv]) hp1
          have s15 := s14.trans S
          refine ⟨told, .ref p1, .tup [floD F, wkD x y h z], rfl, htold.tk (TK.of S), .tup upd_same (.cons (hg13.tk (TK.of s15)) (.cons (hw13.tk (TK.of s15)) .nil)), dl, wl, fun H16 s16 => ⟨true, rfl, ?_⟩⟩
          refine ⟨_, rfl, _, rfl, ifF (by rw [decide_eq_true good]; rfl) ?_⟩
          have s1316 := s15.trans s16
          have R16 := R13.same s1316
          -- steps, cells
          refine ⟨_, rfl, r, a, 12, rfl, R16, by decide, by decide, fun st H17 st0 st1 k17 R17 => ⟨_, _, rfl, rfl, ?_⟩⟩
          obtain ⟨Sn, hSn⟩ : ∃ Sn : Nat, 1 + st = (Sn : Int) := ⟨(1 + st).toNat, by omega⟩
          have tk17 := R16.tk k17
          have ht17 := (ht13.tk (TK.of s1316)).tk tk17
          have hg17 := (hg13.tk (TK.of s1316)).tk tk17
          have hw17 := (hw13.tk (TK.of s1316)).tk tk17
          obtain ⟨ga, gs, rfl, hga, hgl, hgg, hgg'⟩ := hg17.map
          refine ⟨_, rfl, ga, rfl, ⟨_, SqT.of hga⟩, fun Dl hD => ?_⟩
          refine lc_tup (xs := gs) (fun j H' => Same H17 H' ∧ ∃ ps : List PairK, H' Dl = some (.lst (ps.map fun p => V.ref p.t)) ∧ Prs H' (F.take j) ps)
            ⟨Same.new hD, [], upd_same, .nil⟩ (fun j H' _ h => SqT.of (h.1 _ _ hga)) ?_ ?_
          · rintro j y H18 hj ⟨s18, ps, hps, hpr⟩
            obtain ⟨⟨qx, qy, qc⟩, hq, hdq⟩ := hgg' j y hj
            obtain ⟨bq, rfl, hbq⟩ := hdq.ints
            have hb18 := s18 _ _ hbq
            have hpl := hpr.sq.2
            have jl : j ≤ 6 := by have := (List.getElem?_eq_some_iff.mp hq).1; omega
            have pl6 : ps.length ≤ 6 := by rw [hpl, List.length_take]; omega
            refine ⟨rfl, ?_⟩
            refine ⟨_, rfl, _, rfl, _, _, rfl, SqT.of hb18, (fun z => by cases z.2), fun _ p2 hp2 => ?_⟩
            refine ⟨_, rfl, bq, _, _, _, rfl, rfl, SqT.of (upk hp2 hb18), rfl, (by show 2 ≤ sizeLine; decide), fun p3 hp3 => ?_⟩
            have S23 := (Same.new (u := .tup [.int qx, .int qy]) hp2).trans (Same.new (u := .tup [.ref p2, .int qc]) hp3)
            refine ⟨_, upk hp3 (upk hp2 hps), big1000 (by rw [List.length_map]; omega), Same.put (s18.trans S23) hD, ps ++ [pk (qx, qy, qc) p3 p2], by rw [List.map_append]; exact upd_same, ?_⟩
            have tk := TK.at (H := upd (upd H18 p2 (.tup [.int qx, .int qy])) p3 (.tup [.ref p2, .int qc])) (p := Dl) (u := .lst (ps.map (fun p => V.ref p.t) ++ [.ref p3])) (upk hp3 (upk hp2 hps)) (fun _ z => by cases z)
            rw [take_snoc hq]
            exact .snoc ((hpr.tk (TK.of S23)).tk tk) (tk _ _ upd_same) (tk _ _ (upk hp3 upd_same))
          · rintro H18 ⟨s18, ps, hps, hpr⟩
            rw [take_all (l := F) (by omega)] at hpr
            obtain ⟨hsq, hpl⟩ := hpr.sq
            refine ⟨Dl, ps, rfl, SqL.of hps, hpr.ok, fun dq hdq => ⟨_, _, _, rfl, ?_⟩⟩
            have dq17 : H17 dq = none := s18.free hdq
            have s19 := s18.trans (Same.new (u := .dT (WayR.putAll [] ps)) hdq)
            -- here
            refine ⟨_, rfl, ?_⟩
            refine ⟨_, rfl, 1 + st, rfl, by omega, by omega, ?_⟩
            rw [show (1 + st).toNat = Sn by omega]
            have cl0 : (WayR.putAll [] ps).length ≤ 6 := by
              have z := length_putAll ps []
              have z2 : ([] : List (List Key × V)).length = 0 := rfl
              omega
            refine for_range (fun i σ H' => ∃ (hv : V) (v18 v19 v20 : Option V) (f : Int × Int → Int) (kvs : List (List Key × V)), σ = [some (.ref a), some (.ref r), some (.ref ta), some (.ref l), v4, none, some (.bl (decide (keys t).Nodup)), some (.ref ga), some wv, some (.int (M : Int)), some (.ref av), some told, none, some .non, some (.int (1 + st)), some (.ref dq), none, some hv, v18, v19, v20] ∧
                Same H17 H' ∧ H' dq = some (.dT kvs) ∧ SqK kvs f ∧ kvs.length ≤ 6 + i ∧ ((bwdN t i ⟨sqF F, x, y, h, z⟩ = none ∧ hv = .non) ∨ ∃ wi : Wk, bwdN t i ⟨sqF F, x, y, h, z⟩ = some wi ∧ wi.f = f ∧ Da H' hv (wkD wi.x wi.y wi.h wi.s) ∧ Ok t n (3 + (i : Int)) wi))
              ⟨wv, _, _, _, _, _, rfl, s19, upd_same, hsq, cl0, .inr ⟨_, rfl, rfl, hw17.tk (TK.of s19), ok0.mono (by omega)⟩⟩ ?_ ?_
            · rintro i σ H20 hi ⟨hv, v18, v19, v20, f, kvs, rfl, s20, hdq20, hk, hkl, hcase⟩
              rcases hcase with ⟨eb, rfl⟩ | ⟨wi, eb, rfl, hhv, okwi⟩
              · refine ⟨_, rfl, rfl, false, rfl, ?_⟩
                refine ⟨.non, _, _, _, f, kvs, rfl, s20, hdq20, hk, by omega, .inl ⟨?_, rfl⟩⟩
                rw [bwdN_snoc, eb]
                rfl
              · obtain ⟨ha, rfl, hha⟩ := hhv.ints
                have R20 := R17.same s20
                have ht20 := ht17.tk (TK.of s20)
                obtain ⟨tx1, tx2⟩ := dx_turn okwi.h0 okwi.h1
                have oh0 := okwi.h0
                have oh1 := okwi.h1
                refine ⟨_, rfl, rfl, _, rfl, ?_⟩
                refine ifT rfl ?_
                -- place
                refine ⟨_, rfl, _, rfl, _, _, rfl, SqT.of hha, (fun z => by cases z.2), fun _ p2 hp2 => ?_⟩
                refine ⟨_, rfl, ha, _, _, _, rfl, rfl, SqT.of (upk hp2 hha), rfl, _, _, rfl, rfl, .inl ⟨_, rfl, _, _, rfl, rfl, (by show (0 : Int) < 4; decide), ?_⟩⟩
                refine ⟨p2, wi.x, wi.y, _, rfl, upd_same, (by omega), (by omega), fun pl H21 s21 hpl => ?_⟩
                have s2021 := (Same.new (u := .tup [.int wi.x, .int wi.y]) hp2).trans s21
                have hpl : H21 pl = some (.tup [.int (pre wi).1, .int (pre wi).2]) := by
                  rw [hpl]
                  show some (HO.tup [.int (wi.x + Way.dx ((wi.h + 2) % 4)), .int (wi.y + Way.dy ((wi.h + 2) % 4))]) = some (HO.tup [.int (wi.x - Way.dx wi.h), .int (wi.y - Way.dy wi.h)])
                  rw [tx1, tx2]
                  rfl
                have hd21 := s2021 _ _ hdq20
                have hh21 := s2021 _ _ hha
                -- sources
                refine ⟨_, rfl, _, rfl, ha, _, _, _, rfl, rfl, SqT.of hh21, rfl, _, rfl, dq, rfl, .inr ⟨kvs, .inl hd21⟩, _, rfl, _, .inr ⟨kvs, kk (pre wi), pl, .inl hd21, rfl, hpl, rfl⟩, ?_⟩
                rw [hk.getD]
                refine ⟨.ref ta, t, n, wi.s, wi.f (pre wi), rfl, ht20.tk (TK.of s2021), okt, fun sl xs2 H22 s22 hsl0 hsl hdx2 => ?_⟩
                have s2022 := s2021.trans s22
                refine ⟨_, rfl, Nat.zero_le _, fun p3 hp3 => ?_⟩
                have S3 := Same.new (u := .lst []) hp3
                refine ⟨lP (srcs t (wi.s, wi.f (pre wi))), .list [], .lst (SqL.of (upk hp3 hsl)) (dp_pairs (hdx2.tk (TK.of S3))), .lst (SqL.of upd_same) .nil, shaped_pairs _, by decide, _, rfl, ?_⟩
                have s23 := s2022.trans S3
                have s1723 := s20.trans s23
                rcases srcs_one (w := wi) good with ⟨hs, hb⟩ | ⟨⟨o, c⟩, hs, hb⟩
                · refine ifT (by rw [hs]; rfl) ?_
                  refine ⟨.non, _, _, _, wi.f, kvs, rfl, s1723, s23 _ _ hdq20, hk, by omega, .inl ⟨?_, rfl⟩⟩
                  rw [bwdN_snoc, eb]
                  exact hb
                · refine ifF (by rw [hs]; rfl) ?_
                  rw [hs] at hdx2
                  obtain ⟨x1, hx1⟩ : ∃ x1, xs2 = [x1] := List.length_eq_one_iff.mp (by rw [hdx2.length]; rfl)
                  rw [hx1] at hdx2 hsl
                  have hx1d : Da H22 x1 (pD (o, c)) := by
                    cases hdx2 with
                    | cons h _ => exact h
                  obtain ⟨qb, rfl, hqb⟩ := hx1d.ints
                  have hoc : (o, c) ∈ srcs t (wi.s, wi.f (pre wi)) := by rw [hs]; exact List.mem_singleton.mpr rfl
                  obtain ⟨i', j', r', e, ho, hc, e3, e4, e5, e6, e7⟩ := src_ent hoc
                  have ew2 : backBy t wi (o, c) = ⟨put wi.f (pre wi) c, (pre wi).1, (pre wi).2, (wi.h - e.2.1) % 4, o⟩ := by
                    unfold backBy
                    rw [e7]
                    rfl
                  have okw2 := bwd_ok okt okwi hb
                  rw [ew2] at hb okw2
                  have hsl3 := upk (u := .lst []) hp3 hsl
                  have hqb3 := upk (u := .lst []) hp3 hqb
                  have hpl3 := S3 _ _ (s22 _ _ hpl)
                  have hd3 := s23 _ _ hdq20
                  -- cells[place] = ..
                  refine ⟨_, rfl, sl, _, _, _, rfl, rfl, SqL.of hsl3, rfl, qb, _, _, _, rfl, rfl, SqT.of hqb3, rfl, _, rfl, _, rfl, dq, _, rfl, .inr ⟨kvs, kk (pre wi), pl, hd3, rfl, hpl3, big1000 (by omega), rfl⟩, ?_⟩
                  have sP : Same H17 (upd (upd H22 p3 (.lst [])) dq (.dT (putK kvs (kk (pre wi)) (.int c)))) := Same.put s1723 dq17
                  have tk4 : TK (upd H22 p3 (.lst [])) (upd (upd H22 p3 (.lst [])) dq (.dT (putK kvs (kk (pre wi)) (.int c)))) := TK.at hd3 fun _ z => by cases z
                  have hsl4 : upd (upd H22 p3 (.lst [])) dq (.dT (putK kvs (kk (pre wi)) (.int c))) sl = some (.lst [.ref qb]) := by
                    rw [upd_ne (ne_of hsl3 hd3 fun z => by cases z)]
                    exact hsl3
                  have hdq4 : upd (upd H22 p3 (.lst [])) dq (.dT (putK kvs (kk (pre wi)) (.int c))) dq = some (.dT (putK kvs (kk (pre wi)) (.int c))) := upd_same
                  have hh4 := tk4 _ _ (s23 _ _ hha)
                  have hpl4 := tk4 _ _ hpl3
                  have hqb4 := tk4 _ _ hqb3
                  have ht4 := ht17.tk (TK.of sP)
                  generalize upd (upd H22 p3 (.lst [])) dq (.dT (putK kvs (kk (pre wi)) (.int c))) = H24 at sP hsl4 hdq4 hh4 hpl4 hqb4 ht4
                  obtain ⟨ta', ts', eta, hta4, _, hget4, _⟩ := ht4.map
                  cases eta
                  obtain ⟨xr, hxr, hdr⟩ := hget4 i' r' e3
                  obtain ⟨br, yr, rfl, hbr, _, hgetr, _⟩ := hdr.map
                  obtain ⟨ue, hue, hde⟩ := hgetr j' _ e4
                  obtain ⟨be, rfl, hbe⟩ := hde.ints
                  refine ⟨_, rfl, _, rfl, ha, _, _, _, rfl, rfl, SqT.of hh4, rfl, _, rfl, _, rfl, sl, _, _, _, rfl, rfl, SqL.of hsl4, rfl, qb, _, _, _, rfl, rfl, SqT.of hqb4, rfl, ta, _, _, .ref br, rfl, rfl, SqT.of hta4, (by show atI ts' o = some (.ref br); rw [ho]; exact atI_nat hxr), ?_⟩
                  refine ⟨_, rfl, sl, _, _, _, rfl, rfl, SqL.of hsl4, rfl, qb, _, _, _, rfl, rfl, SqT.of hqb4, rfl, br, _, _, .ref be, rfl, rfl, SqT.of hbr, (by show atI yr c = some (.ref be); rw [hc]; exact atI_nat hue), be, _, _, _, rfl, rfl, SqT.of hbe, rfl, _, _, rfl, rfl, .inl ⟨_, rfl, _, _, rfl, rfl, (by show (0 : Int) < 4; decide), ?_⟩⟩
                  refine ⟨_, rfl, sl, _, _, _, rfl, rfl, SqL.of hsl4, rfl, qb, _, _, _, rfl, rfl, SqT.of hqb4, rfl, (by show 2 ≤ sizeLine; decide), fun p5 hp5 => ?_⟩
                  refine ⟨pl, p5, _, _, rfl, rfl, SqT.of (upk hp5 hpl4), SqT.of upd_same, (by show 4 ≤ sizeLine; decide), (fun z => by cases z), (fun _ z => by cases z), fun _ _ p6 hp6 => ?_⟩
                  refine ⟨.ref p6, _, _, _, _, _, rfl, (sP.trans (Same.new hp5)).trans (Same.new hp6), upk hp6 (upk hp5 hdq4), hk.put (pre wi) c, Nat.le_trans (length_putK _ _ _) (by omega), .inr ⟨_, ?_, rfl, Da.of_ints (ns := [_, _, _, _]) upd_same, okw2.mono (by omega)⟩⟩
                  rw [bwdN_snoc, eb]
                  exact hb
            · rintro σ H20 ⟨hv, v18, v19, v20, f, kvs, rfl, s20, hdq20, hk, hkl, hcase⟩
              -- before
              have lS : Sn ≤ 12 := by omega
              have ht20 := ht17.tk (TK.of s20)
              have hg20 := hg17.tk (TK.of s20)
              have hw20 := hw17.tk (TK.of s20)
              refine ⟨fun σ' H' => ∃ (bv : V) (dd : D) (v17 v18 v19 v20 : Option V), σ' = [some (.ref a), some (.ref r), some (.ref ta), some (.ref l), v4, none, some (.bl (decide (keys t).Nodup)), some (.ref ga), some wv, some (.int (M : Int)), some (.ref av), some told, none, some bv, some (.int (1 + st)), some (.ref dq), none, v17, v18, v19, v20] ∧
                  Same H20 H' ∧ Da H' bv dd ∧ toldD (bwdN t Sn ⟨sqF F, x, y, h, z⟩) dd ∧ dp dd ≤ 3 ∧ wd dd ≤ 5000, ?_, ?_⟩
              · rcases hcase with ⟨eb, rfl⟩ | ⟨wi, eb, rfl, hhv, okwi⟩
                · refine ⟨_, rfl, rfl, true, rfl, ?_⟩
                  exact ⟨_, .str "none", _, _, _, _, rfl, Same.refl _, .str _, .inl ⟨eb, rfl⟩, (by show 0 ≤ 3; decide), (by show 0 ≤ 5000; decide)⟩
                · have nn : hv ≠ .non := fun e => by rw [e] at hhv; cases hhv
                  refine ⟨_, rfl, rfl, _, rfl, ?_⟩
                  refine ifF (decide_eq_false nn) ?_
                  refine ⟨_, rfl, dq, wi.f, 6 + Sn, rfl, ⟨kvs, hdq20, hk, hkl⟩, by omega, okwi.f0, fun bf G2 H21 s21 hG2 iG2 lG2 => ?_⟩
                  refine ⟨_, rfl, (by show 2 ≤ sizeLine; decide), fun p2 hp2 => ?_⟩
                  obtain ⟨dl2, wl2⟩ := dp_told G2 wi.x wi.y wi.h wi.s (by omega)
                  have S2 := Same.new (u := .tup [bf, hv]) hp2
                  exact ⟨_, _, _, _, _, _, rfl, s21.trans S2, .tup upd_same (.cons (hG2.tk (TK.of S2)) (.cons (hhv.tk (TK.of (s21.trans S2))) .nil)), .inr ⟨wi, G2, eb, iG2, rfl⟩, dl2, wl2⟩
              · rintro σ' H21 ⟨bv, dd, v17, v18, v19, v20, rfl, s21, hbv, htd, ddl, ddw⟩
                have ht21 := ht20.tk (TK.of s21)
                have hg21 := hg20.tk (TK.of s21)
                have hw21 := hw20.tk (TK.of s21)
                -- the second way back
                refine ⟨fun σ' H' => ∃ (told2 : V), σ' = [some (.ref a), some (.ref r), some (.ref ta), some (.ref l), v4, none, some (.bl (decide (keys t).Nodup)), some (.ref ga), some wv, some (.int (M : Int)), some (.ref av), some told2, none, some bv, some (.int (1 + st)), some (.ref dq), none, v17, v18, v19, v20] ∧ Same H21 H' ∧ Da H' told2 dd, ?_, ?_⟩
                · refine ⟨_, rfl, _, rfl, _, rfl, _, rfl, ?_⟩
                  refine ⟨.ref ta, .ref ga, wv, t, n, Sn, F, x, y, h, z, (by rw [hSn]), ht21, okt, hg21, okf.mono hB, hw21, okw.mono hB, by omega, by omega, fun bad => absurd good bad, fun _ hn H22 s22 => ?_, fun w' _ hw' v' G' H22 s22 hv' iG' => ?_⟩
                  · rcases htd with ⟨_, rfl⟩ | ⟨w2, G2, e, _, _⟩
                    · refine ⟨true, T.nE, fun _ a0 ha0 => ?_, fun z => by cases z⟩
                      refine ⟨_, rfl, rfl, rfl, .ref cN, .ref cN, true, rfl, (fun u hu => hu), T.iN, true, rfl, ?_⟩
                      exact ⟨_, rfl, s22, .str _⟩
                    · rw [hn] at e
                      cases e
                  · rcases htd with ⟨e, _⟩ | ⟨w2, G2, e, iG2, rfl⟩
                    · rw [hw'] at e
                      cases e
                    · rw [hw'] at e
                      cases Option.some.inj e
                      have eG : G' = G2 := iG'.unique iG2
                      refine ⟨_, rfl, s22, ?_⟩
                      rw [← eG]
                      exact hv'
                · rintro σ' H22 ⟨told2, rfl, s22, htold2⟩
                  refine ⟨_, rfl, _, rfl, told2, bv, dd, rfl, htold2, hbv.tk (TK.of s22), ddl, ddw, fun H23 _ => ?_⟩
                  exact q _
        · rw [if_neg good] at htold
          refine ⟨_, rfl, _, rfl, _, rfl, ?_⟩
          refine ifF (decide_eq_false good) ?_
          refine ⟨told, _, .str "none", rfl, htold, .str _, (by show 0 ≤ 3; decide), (by show 0 ≤ 5000; decide), fun H16 s16 => ⟨true, rfl, ?_⟩⟩
          refine ⟨_, rfl, _, rfl, ifT (by rw [decide_eq_false good]; rfl) ?_⟩
          exact q _
end
end WayP
/-! what the top has written, the head -/
namespace WayP
open PySem PySem.Spec PyProof.Rows L2 WayR Way
section
variable {P : Program} {w : World} {K : PySem.W.Frag} {mg : Str → Option Value} {base : Heap} {cW cE cN hA h0 h1 h2 h3 : Addr}
theorem ok_law (T : Txt K mg cW cE cN hA h0 h1 h2 h3) {f : Addr} {fd : FuncData} (F : FunE K "law" "law" s_law f fd) : FnOk P w K mg base CX0 8 f fd ps_law (spLaw K) := by
  obtain ⟨oc, od, dV, kV, doc, pm, an, cdv, ct, osl, rfl, lk, hcd⟩ := F
  refine fn_of lk hcd sc_law (fun vs H Q E h => ?_) fun A outer s H vs Q E hr hsp => ?_
  · obtain ⟨a, ns, rfl, _⟩ := h
    rfl
  · obtain ⟨t, h, q⟩ := body_law (P := P) (w := w) (base := base) T (f := f) (cdv := cdv) (outer := outer) hr hsp
    exact ⟨t, h.nox, q⟩
theorem kit_self {t : Value} : PySem.W.kitOne K t t = some true := by
  unfold PySem.W.kitOne
  rw [if_pos (by simp)]
theorem nF_of {C : Addr} (a : NoAttr K C "table") (b : NoAttr K C "squares") (c : NoAttr K C "place") (d : NoAttr K C "heading") (e : NoAttr K C "state") (f : NoAttr K C "done") : ∀ x ∈ (["table", "squares", "place", "heading", "state", "done"] : List Str), NoAttr K C x := by
  intro x hx
  simp only [List.mem_cons, List.not_mem_nil, or_false] at hx
  rcases hx with rfl | rfl | rfl | rfl | rfl | rfl
  · exact a
  · exact b
  · exact c
  · exact d
  · exact e
  · exact f
theorem needFloor_binds {f fD : Addr} {oc ocD kV dc pm cd ct : Value} {od odD an : Option Addr} {sl slD : Array (Option Value)} {tkD : Tok} {nD : Nat}
    (l : K.lookup f = some ⟨oc, od, .func (PySem.W.fnOf "need_floor" "need_floor" (defArgs s_need_floor) (defBody s_need_floor) (defScope s_need_floor) (.ref fD) kV dc pm an cd ct), sl⟩) (c : PySem.W.codeIn K cd "need_floor" = true) (k : PySem.W.keepIn K (.ref f) = true)
    (t : K.lookup fD = some ⟨ocD, odD, .seq #[.int 6 tkD] nD, slD⟩) : Binds K (PySem.W.fnOf "need_floor" "need_floor" (defArgs s_need_floor) (defBody s_need_floor) (defScope s_need_floor) (.ref fD) kV dc pm an cd ct) ps_need_floor [] := by
  have F : FunD K "need_floor" "need_floor" (defArgs s_need_floor) (defBody s_need_floor) (defScope s_need_floor) [V.int 6] [] f (PySem.W.fnOf "need_floor" "need_floor" (defArgs s_need_floor) (defBody s_need_floor) (defScope s_need_floor) (.ref fD) kV dc pm an cd ct) :=
    ⟨⟨oc, od, .ref fD, kV, dc, pm, an, cd, ct, sl, rfl, l, c, .inr ⟨(fun z => by cases z), fD, _, [.int 6 tkD], nD, rfl, t, rfl, .cons ⟨_, rfl⟩ .nil⟩, .inl rfl⟩, k⟩
  obtain ⟨ds, hd, hb⟩ := F.binds1 2 1 (ps := ps_need_floor) (fun z => by cases z) rfl fun T kV doc pm an cdv ct us its hu hi => match us, its, hu, hi with | [_, _], [_], _, _ => ⟨_, rfl, rfl⟩
  cases hd
  exact hb
end
theorem all_mk {l : PySem.W.OpenLaw} {w : World} {K : PySem.W.Frag} {h : Heap} {mg : Str → Option Value} {fa cW cE cN hA h0 h1 h2 h3 fD : Addr} (X : K.In h) (G : h.Ns mainGlobals mg) (hfa : mg "law" = some (.ref fa))
    {f0 : Addr} {od0 an0 : Option Addr} {sl0 : Array (Option Value)} {oc0 kV0 dc0 pm0 cd0 ct0 : Value}
    {f1 : Addr} {od1 an1 : Option Addr} {sl1 : Array (Option Value)} {oc1 kV1 dc1 pm1 cd1 ct1 : Value}
    {f2 : Addr} {od2 an2 : Option Addr} {sl2 : Array (Option Value)} {oc2 kV2 dc2 pm2 cd2 ct2 : Value}
    {f3 : Addr} {od3 an3 : Option Addr} {sl3 : Array (Option Value)} {oc3 kV3 dc3 pm3 cd3 ct3 : Value}
    {f4 : Addr} {od4 an4 : Option Addr} {sl4 : Array (Option Value)} {oc4 kV4 dc4 pm4 cd4 ct4 : Value}
    {f5 : Addr} {od5 an5 : Option Addr} {sl5 : Array (Option Value)} {oc5 kV5 dc5 pm5 cd5 ct5 : Value}
    {f6 : Addr} {od6 an6 : Option Addr} {sl6 : Array (Option Value)} {oc6 kV6 dc6 pm6 cd6 ct6 : Value}
    {f7 : Addr} {od7 an7 : Option Addr} {sl7 : Array (Option Value)} {oc7 kV7 dc7 pm7 cd7 ct7 : Value}
    {f8 : Addr} {od8 an8 : Option Addr} {sl8 : Array (Option Value)} {oc8 kV8 dc8 pm8 cd8 ct8 : Value}
    {f9 : Addr} {od9 an9 : Option Addr} {sl9 : Array (Option Value)} {oc9 kV9 dc9 pm9 cd9 ct9 : Value}
    {f10 : Addr} {od10 an10 : Option Addr} {sl10 : Array (Option Value)} {oc10 kV10 dc10 pm10 cd10 ct10 : Value}
    {f11 : Addr} {od11 an11 : Option Addr} {sl11 : Array (Option Value)} {oc11 kV11 dc11 pm11 cd11 ct11 : Value}
    {f12 : Addr} {od12 an12 : Option Addr} {sl12 : Array (Option Value)} {oc12 kV12 dc12 pm12 cd12 ct12 : Value}
    {f13 : Addr} {od13 an13 : Option Addr} {sl13 : Array (Option Value)} {oc13 kV13 dc13 pm13 cd13 ct13 : Value}
    {f14 : Addr} {od14 an14 : Option Addr} {sl14 : Array (Option Value)} {oc14 kV14 dc14 pm14 cd14 ct14 : Value}
    {f15 : Addr} {od15 an15 : Option Addr} {sl15 : Array (Option Value)} {oc15 kV15 dc15 pm15 cd15 ct15 : Value}
    {f16 : Addr} {od16 an16 : Option Addr} {sl16 : Array (Option Value)} {oc16 kV16 dc16 pm16 cd16 ct16 : Value}
    {f17 : Addr} {od17 an17 : Option Addr} {sl17 : Array (Option Value)} {oc17 kV17 dc17 pm17 cd17 ct17 : Value}
    {f18 : Addr} {od18 an18 : Option Addr} {sl18 : Array (Option Value)} {oc18 kV18 dc18 pm18 cd18 ct18 : Value}
    {f19 : Addr} {od19 an19 : Option Addr} {sl19 : Array (Option Value)} {oc19 kV19 dc19 pm19 cd19 ct19 : Value}
    {f20 : Addr} {od20 an20 : Option Addr} {sl20 : Array (Option Value)} {oc20 kV20 dc20 pm20 cd20 ct20 : Value}
    {f21 : Addr} {od21 an21 : Option Addr} {sl21 : Array (Option Value)} {oc21 kV21 dc21 pm21 cd21 ct21 : Value}
    {f22 : Addr} {od22 an22 : Option Addr} {sl22 : Array (Option Value)} {oc22 kV22 dc22 pm22 cd22 ct22 : Value}
    {f23 : Addr} {od23 an23 : Option Addr} {sl23 : Array (Option Value)} {oc23 kV23 dc23 pm23 cd23 ct23 : Value}
    {f24 : Addr} {od24 an24 : Option Addr} {sl24 : Array (Option Value)} {oc24 kV24 dc24 pm24 cd24 ct24 : Value}
    {f25 : Addr} {od25 an25 : Option Addr} {sl25 : Array (Option Value)} {oc25 kV25 dc25 pm25 cd25 ct25 : Value}
    {f26 : Addr} {od26 an26 : Option Addr} {sl26 : Array (Option Value)} {oc26 kV26 dc26 pm26 cd26 ct26 : Value}
    {f27 : Addr} {od27 an27 : Option Addr} {sl27 : Array (Option Value)} {oc27 kV27 dc27 pm27 cd27 ct27 : Value}
    {f28 : Addr} {od28 an28 : Option Addr} {sl28 : Array (Option Value)} {oc28 kV28 dc28 pm28 cd28 ct28 : Value}
    {f29 : Addr} {od29 an29 : Option Addr} {sl29 : Array (Option Value)} {oc29 kV29 dc29 pm29 cd29 ct29 : Value}
    {f30 : Addr} {od30 an30 : Option Addr} {sl30 : Array (Option Value)} {oc30 kV30 dc30 pm30 cd30 ct30 : Value}
    {f31 : Addr} {od31 an31 : Option Addr} {sl31 : Array (Option Value)} {oc31 kV31 dc31 pm31 cd31 ct31 : Value}
    {f32 : Addr} {od32 an32 : Option Addr} {sl32 : Array (Option Value)} {oc32 kV32 dc32 pm32 cd32 ct32 : Value}
    {f33 : Addr} {od33 an33 : Option Addr} {sl33 : Array (Option Value)} {oc33 kV33 dc33 pm33 cd33 ct33 : Value}
    {f34 : Addr} {od34 an34 : Option Addr} {sl34 : Array (Option Value)} {oc34 kV34 dc34 pm34 cd34 ct34 : Value}
    {ocD : Value} {odD dH dH0 dH1 dH2 dH3 : Option Addr} {tkD tk_FAR tk_MOST_STATES tk_MOST_COLOURS tk_MOST_SQUARES tk_MOST_STEPS tx0 tx1 tx2 tx3 ty0 ty1 ty2 ty3 : Tok} {nD nH nH0 nH1 nH2 nH3 : Nat} {slD slH slH0 slH1 slH2 slH3 : Array (Option Value)}
    (mW : PySem.W.nsIn K mainGlobals "Walk" = some (some (.ref cW)))
    (a0 : PySem.W.nsIn K mainGlobals "is_in" = some (some (.ref f0)))
    (l0 : K.lookup f0 = some ⟨oc0, od0, .func (PySem.W.fnOf "is_in" "is_in" (defArgs s_is_in) (defBody s_is_in) (defScope s_is_in) .none kV0 dc0 pm0 an0 cd0 ct0), sl0⟩)
    (c0 : PySem.W.codeIn K cd0 "is_in" = true)
    (k0 : PySem.W.keepIn K (.ref f0) = true)
    (a1 : PySem.W.nsIn K mainGlobals "is_entry" = some (some (.ref f1)))
    (l1 : K.lookup f1 = some ⟨oc1, od1, .func (PySem.W.fnOf "is_entry" "is_entry" (defArgs s_is_entry) (defBody s_is_entry) (defScope s_is_entry) .none kV1 dc1 pm1 an1 cd1 ct1), sl1⟩)
    (c1 : PySem.W.codeIn K cd1 "is_entry" = true)
    (k1 : PySem.W.keepIn K (.ref f1) = true)
    (a2 : PySem.W.nsIn K mainGlobals "is_table" = some (some (.ref f2)))
    (l2 : K.lookup f2 = some ⟨oc2, od2, .func (PySem.W.fnOf "is_table" "is_table" (defArgs s_is_table) (defBody s_is_table) (defScope s_is_table) .none kV2 dc2 pm2 an2 cd2 ct2), sl2⟩)
    (c2 : PySem.W.codeIn K cd2 "is_table" = true)
    (k2 : PySem.W.keepIn K (.ref f2) = true)
    (a3 : PySem.W.nsIn K mainGlobals "need_table" = some (some (.ref f3)))
    (l3 : K.lookup f3 = some ⟨oc3, od3, .func (PySem.W.fnOf "need_table" "need_table" (defArgs s_need_table) (defBody s_need_table) (defScope s_need_table) .none kV3 dc3 pm3 an3 cd3 ct3), sl3⟩)
    (c3 : PySem.W.codeIn K cd3 "need_table" = true)
    (k3 : PySem.W.keepIn K (.ref f3) = true)
    (a4 : PySem.W.nsIn K mainGlobals "is_place" = some (some (.ref f4)))
    (l4 : K.lookup f4 = some ⟨oc4, od4, .func (PySem.W.fnOf "is_place" "is_place" (defArgs s_is_place) (defBody s_is_place) (defScope s_is_place) .none kV4 dc4 pm4 an4 cd4 ct4), sl4⟩)
    (c4 : PySem.W.codeIn K cd4 "is_place" = true)
    (k4 : PySem.W.keepIn K (.ref f4) = true)
    (a5 : PySem.W.nsIn K mainGlobals "is_square" = some (some (.ref f5)))
    (l5 : K.lookup f5 = some ⟨oc5, od5, .func (PySem.W.fnOf "is_square" "is_square" (defArgs s_is_square) (defBody s_is_square) (defScope s_is_square) .none kV5 dc5 pm5 an5 cd5 ct5), sl5⟩)
    (c5 : PySem.W.codeIn K cd5 "is_square" = true)
    (k5 : PySem.W.keepIn K (.ref f5) = true)
    (a6 : PySem.W.nsIn K mainGlobals "need_floor" = some (some (.ref f6)))
    (l6 : K.lookup f6 = some ⟨oc6, od6, .func (PySem.W.fnOf "need_floor" "need_floor" (defArgs s_need_floor) (defBody s_need_floor) (defScope s_need_floor) (.ref fD) kV6 dc6 pm6 an6 cd6 ct6), sl6⟩)
    (c6 : PySem.W.codeIn K cd6 "need_floor" = true)
    (k6 : PySem.W.keepIn K (.ref f6) = true)
    (a7 : PySem.W.nsIn K mainGlobals "squares_of" = some (some (.ref f7)))
    (l7 : K.lookup f7 = some ⟨oc7, od7, .func (PySem.W.fnOf "squares_of" "squares_of" (defArgs s_squares_of) (defBody s_squares_of) (defScope s_squares_of) .none kV7 dc7 pm7 an7 cd7 ct7), sl7⟩)
    (c7 : PySem.W.codeIn K cd7 "squares_of" = true)
    (k7 : PySem.W.keepIn K (.ref f7) = true)
    (a8 : PySem.W.nsIn K mainGlobals "floor_of" = some (some (.ref f8)))
    (l8 : K.lookup f8 = some ⟨oc8, od8, .func (PySem.W.fnOf "floor_of" "floor_of" (defArgs s_floor_of) (defBody s_floor_of) (defScope s_floor_of) .none kV8 dc8 pm8 an8 cd8 ct8), sl8⟩)
    (c8 : PySem.W.codeIn K cd8 "floor_of" = true)
    (k8 : PySem.W.keepIn K (.ref f8) = true)
    (a9 : PySem.W.nsIn K mainGlobals "is_walker" = some (some (.ref f9)))
    (l9 : K.lookup f9 = some ⟨oc9, od9, .func (PySem.W.fnOf "is_walker" "is_walker" (defArgs s_is_walker) (defBody s_is_walker) (defScope s_is_walker) .none kV9 dc9 pm9 an9 cd9 ct9), sl9⟩)
    (c9 : PySem.W.codeIn K cd9 "is_walker" = true)
    (k9 : PySem.W.keepIn K (.ref f9) = true)
    (a10 : PySem.W.nsIn K mainGlobals "need_stand" = some (some (.ref f10)))
    (l10 : K.lookup f10 = some ⟨oc10, od10, .func (PySem.W.fnOf "need_stand" "need_stand" (defArgs s_need_stand) (defBody s_need_stand) (defScope s_need_stand) .none kV10 dc10 pm10 an10 cd10 ct10), sl10⟩)
    (c10 : PySem.W.codeIn K cd10 "need_stand" = true)
    (k10 : PySem.W.keepIn K (.ref f10) = true)
    (a11 : PySem.W.findIn K (.ref cW) "__init__" = some (some (.ref f11)))
    (i11 : PySem.W.isFn K (.ref f11) = true)
    (l11 : K.lookup f11 = some ⟨oc11, od11, .func (PySem.W.fnOf "__init__" "Walk.__init__" (defArgs s_Walkx_initx) (defBody s_Walkx_initx) (defScope s_Walkx_initx) .none kV11 dc11 pm11 an11 cd11 ct11), sl11⟩)
    (c11 : PySem.W.codeIn K cd11 "Walk.__init__" = true)
    (k11 : PySem.W.keepIn K (.ref f11) = true)
    (a12 : PySem.W.findIn K (.ref cW) "colour" = some (some (.ref f12)))
    (i12 : PySem.W.isFn K (.ref f12) = true)
    (l12 : K.lookup f12 = some ⟨oc12, od12, .func (PySem.W.fnOf "colour" "Walk.colour" (defArgs s_Walk_colour) (defBody s_Walk_colour) (defScope s_Walk_colour) .none kV12 dc12 pm12 an12 cd12 ct12), sl12⟩)
    (c12 : PySem.W.codeIn K cd12 "Walk.colour" = true)
    (k12 : PySem.W.keepIn K (.ref f12) = true)
    (a13 : PySem.W.findIn K (.ref cW) "entry" = some (some (.ref f13)))
    (i13 : PySem.W.isFn K (.ref f13) = true)
    (l13 : K.lookup f13 = some ⟨oc13, od13, .func (PySem.W.fnOf "entry" "Walk.entry" (defArgs s_Walk_entry) (defBody s_Walk_entry) (defScope s_Walk_entry) .none kV13 dc13 pm13 an13 cd13 ct13), sl13⟩)
    (c13 : PySem.W.codeIn K cd13 "Walk.entry" = true)
    (k13 : PySem.W.keepIn K (.ref f13) = true)
    (a14 : PySem.W.findIn K (.ref cW) "walker" = some (some (.ref f14)))
    (i14 : PySem.W.isFn K (.ref f14) = true)
    (l14 : K.lookup f14 = some ⟨oc14, od14, .func (PySem.W.fnOf "walker" "Walk.walker" (defArgs s_Walk_walker) (defBody s_Walk_walker) (defScope s_Walk_walker) .none kV14 dc14 pm14 an14 cd14 ct14), sl14⟩)
    (c14 : PySem.W.codeIn K cd14 "Walk.walker" = true)
    (k14 : PySem.W.keepIn K (.ref f14) = true)
    (a15 : PySem.W.findIn K (.ref cW) "step" = some (some (.ref f15)))
    (i15 : PySem.W.isFn K (.ref f15) = true)
    (l15 : K.lookup f15 = some ⟨oc15, od15, .func (PySem.W.fnOf "step" "Walk.step" (defArgs s_Walk_step) (defBody s_Walk_step) (defScope s_Walk_step) .none kV15 dc15 pm15 an15 cd15 ct15), sl15⟩)
    (c15 : PySem.W.codeIn K cd15 "Walk.step" = true)
    (k15 : PySem.W.keepIn K (.ref f15) = true)
    (a16 : PySem.W.findIn K (.ref cW) "go" = some (some (.ref f16)))
    (i16 : PySem.W.isFn K (.ref f16) = true)
    (l16 : K.lookup f16 = some ⟨oc16, od16, .func (PySem.W.fnOf "go" "Walk.go" (defArgs s_Walk_go) (defBody s_Walk_go) (defScope s_Walk_go) .none kV16 dc16 pm16 an16 cd16 ct16), sl16⟩)
    (c16 : PySem.W.codeIn K cd16 "Walk.go" = true)
    (k16 : PySem.W.keepIn K (.ref f16) = true)
    (a17 : PySem.W.findIn K (.ref cW) "stand" = some (some (.ref f17)))
    (i17 : PySem.W.isFn K (.ref f17) = true)
    (l17 : K.lookup f17 = some ⟨oc17, od17, .func (PySem.W.fnOf "stand" "Walk.stand" (defArgs s_Walk_stand) (defBody s_Walk_stand) (defScope s_Walk_stand) .none kV17 dc17 pm17 an17 cd17 ct17), sl17⟩)
    (c17 : PySem.W.codeIn K cd17 "Walk.stand" = true)
    (k17 : PySem.W.keepIn K (.ref f17) = true)
    (a18 : PySem.W.nsIn K mainGlobals "walk" = some (some (.ref f18)))
    (l18 : K.lookup f18 = some ⟨oc18, od18, .func (PySem.W.fnOf "walk" "walk" (defArgs s_walk) (defBody s_walk) (defScope s_walk) .none kV18 dc18 pm18 an18 cd18 ct18), sl18⟩)
    (c18 : PySem.W.codeIn K cd18 "walk" = true)
    (k18 : PySem.W.keepIn K (.ref f18) = true)
    (a19 : PySem.W.nsIn K mainGlobals "sources_in" = some (some (.ref f19)))
    (l19 : K.lookup f19 = some ⟨oc19, od19, .func (PySem.W.fnOf "sources_in" "sources_in" (defArgs s_sources_in) (defBody s_sources_in) (defScope s_sources_in) .none kV19 dc19 pm19 an19 cd19 ct19), sl19⟩)
    (c19 : PySem.W.codeIn K cd19 "sources_in" = true)
    (k19 : PySem.W.keepIn K (.ref f19) = true)
    (a20 : PySem.W.nsIn K mainGlobals "can_be_undone" = some (some (.ref f20)))
    (l20 : K.lookup f20 = some ⟨oc20, od20, .func (PySem.W.fnOf "can_be_undone" "can_be_undone" (defArgs s_can_be_undone) (defBody s_can_be_undone) (defScope s_can_be_undone) .none kV20 dc20 pm20 an20 cd20 ct20), sl20⟩)
    (c20 : PySem.W.codeIn K cd20 "can_be_undone" = true)
    (k20 : PySem.W.keepIn K (.ref f20) = true)
    (a21 : PySem.W.nsIn K mainGlobals "step_back" = some (some (.ref f21)))
    (l21 : K.lookup f21 = some ⟨oc21, od21, .func (PySem.W.fnOf "step_back" "step_back" (defArgs s_step_back) (defBody s_step_back) (defScope s_step_back) .none kV21 dc21 pm21 an21 cd21 ct21), sl21⟩)
    (c21 : PySem.W.codeIn K cd21 "step_back" = true)
    (k21 : PySem.W.keepIn K (.ref f21) = true)
    (a22 : PySem.W.nsIn K mainGlobals "back" = some (some (.ref f22)))
    (l22 : K.lookup f22 = some ⟨oc22, od22, .func (PySem.W.fnOf "back" "back" (defArgs s_back) (defBody s_back) (defScope s_back) .none kV22 dc22 pm22 an22 cd22 ct22), sl22⟩)
    (c22 : PySem.W.codeIn K cd22 "back" = true)
    (k22 : PySem.W.keepIn K (.ref f22) = true)
    (a23 : PySem.W.nsIn K mainGlobals "_law_taken" = some (some (.ref f23)))
    (l23 : K.lookup f23 = some ⟨oc23, od23, .func (PySem.W.fnOf "_law_taken" "_law_taken" (defArgs s__law_taken) (defBody s__law_taken) (defScope s__law_taken) .none kV23 dc23 pm23 an23 cd23 ct23), sl23⟩)
    (c23 : PySem.W.codeIn K cd23 "_law_taken" = true)
    (k23 : PySem.W.keepIn K (.ref f23) = true)
    (a24 : PySem.W.nsIn K mainGlobals "_law_pick" = some (some (.ref f24)))
    (l24 : K.lookup f24 = some ⟨oc24, od24, .func (PySem.W.fnOf "_law_pick" "_law_pick" (defArgs s__law_pick) (defBody s__law_pick) (defScope s__law_pick) .none kV24 dc24 pm24 an24 cd24 ct24), sl24⟩)
    (c24 : PySem.W.codeIn K cd24 "_law_pick" = true)
    (k24 : PySem.W.keepIn K (.ref f24) = true)
    (a25 : PySem.W.nsIn K mainGlobals "_law_table" = some (some (.ref f25)))
    (l25 : K.lookup f25 = some ⟨oc25, od25, .func (PySem.W.fnOf "_law_table" "_law_table" (defArgs s__law_table) (defBody s__law_table) (defScope s__law_table) .none kV25 dc25 pm25 an25 cd25 ct25), sl25⟩)
    (c25 : PySem.W.codeIn K cd25 "_law_table" = true)
    (k25 : PySem.W.keepIn K (.ref f25) = true)
    (a26 : PySem.W.nsIn K mainGlobals "_law_alike" = some (some (.ref f26)))
    (l26 : K.lookup f26 = some ⟨oc26, od26, .func (PySem.W.fnOf "_law_alike" "_law_alike" (defArgs s__law_alike) (defBody s__law_alike) (defScope s__law_alike) .none kV26 dc26 pm26 an26 cd26 ct26), sl26⟩)
    (c26 : PySem.W.codeIn K cd26 "_law_alike" = true)
    (k26 : PySem.W.keepIn K (.ref f26) = true)
    (a27 : PySem.W.nsIn K mainGlobals "_law_signed" = some (some (.ref f27)))
    (l27 : K.lookup f27 = some ⟨oc27, od27, .func (PySem.W.fnOf "_law_signed" "_law_signed" (defArgs s__law_signed) (defBody s__law_signed) (defScope s__law_signed) .none kV27 dc27 pm27 an27 cd27 ct27), sl27⟩)
    (c27 : PySem.W.codeIn K cd27 "_law_signed" = true)
    (k27 : PySem.W.keepIn K (.ref f27) = true)
    (a28 : PySem.W.nsIn K mainGlobals "_law_some_floor" = some (some (.ref f28)))
    (l28 : K.lookup f28 = some ⟨oc28, od28, .func (PySem.W.fnOf "_law_some_floor" "_law_some_floor" (defArgs s__law_some_floor) (defBody s__law_some_floor) (defScope s__law_some_floor) .none kV28 dc28 pm28 an28 cd28 ct28), sl28⟩)
    (c28 : PySem.W.codeIn K cd28 "_law_some_floor" = true)
    (k28 : PySem.W.keepIn K (.ref f28) = true)
    (a29 : PySem.W.nsIn K mainGlobals "_law_walker" = some (some (.ref f29)))
    (l29 : K.lookup f29 = some ⟨oc29, od29, .func (PySem.W.fnOf "_law_walker" "_law_walker" (defArgs s__law_walker) (defBody s__law_walker) (defScope s__law_walker) .none kV29 dc29 pm29 an29 cd29 ct29), sl29⟩)
    (c29 : PySem.W.codeIn K cd29 "_law_walker" = true)
    (k29 : PySem.W.keepIn K (.ref f29) = true)
    (a30 : PySem.W.nsIn K mainGlobals "_law_ahead" = some (some (.ref f30)))
    (l30 : K.lookup f30 = some ⟨oc30, od30, .func (PySem.W.fnOf "_law_ahead" "_law_ahead" (defArgs s__law_ahead) (defBody s__law_ahead) (defScope s__law_ahead) .none kV30 dc30 pm30 an30 cd30 ct30), sl30⟩)
    (c30 : PySem.W.codeIn K cd30 "_law_ahead" = true)
    (k30 : PySem.W.keepIn K (.ref f30) = true)
    (a31 : PySem.W.nsIn K mainGlobals "_law_floor" = some (some (.ref f31)))
    (l31 : K.lookup f31 = some ⟨oc31, od31, .func (PySem.W.fnOf "_law_floor" "_law_floor" (defArgs s__law_floor) (defBody s__law_floor) (defScope s__law_floor) .none kV31 dc31 pm31 an31 cd31 ct31), sl31⟩)
    (c31 : PySem.W.codeIn K cd31 "_law_floor" = true)
    (k31 : PySem.W.keepIn K (.ref f31) = true)
    (a32 : PySem.W.nsIn K mainGlobals "_law_undone_table" = some (some (.ref f32)))
    (l32 : K.lookup f32 = some ⟨oc32, od32, .func (PySem.W.fnOf "_law_undone_table" "_law_undone_table" (defArgs s__law_undone_table) (defBody s__law_undone_table) (defScope s__law_undone_table) .none kV32 dc32 pm32 an32 cd32 ct32), sl32⟩)
    (c32 : PySem.W.codeIn K cd32 "_law_undone_table" = true)
    (k32 : PySem.W.keepIn K (.ref f32) = true)
    (a33 : PySem.W.nsIn K mainGlobals "_law_sources" = some (some (.ref f33)))
    (l33 : K.lookup f33 = some ⟨oc33, od33, .func (PySem.W.fnOf "_law_sources" "_law_sources" (defArgs s__law_sources) (defBody s__law_sources) (defScope s__law_sources) .none kV33 dc33 pm33 an33 cd33 ct33), sl33⟩)
    (c33 : PySem.W.codeIn K cd33 "_law_sources" = true)
    (k33 : PySem.W.keepIn K (.ref f33) = true)
    (a34 : PySem.W.nsIn K mainGlobals "law" = some (some (.ref f34)))
    (l34 : K.lookup f34 = some ⟨oc34, od34, .func (PySem.W.fnOf "law" "law" (defArgs s_law) (defBody s_law) (defScope s_law) .none kV34 dc34 pm34 an34 cd34 ct34), sl34⟩)
    (c34 : PySem.W.codeIn K cd34 "law" = true)
    (k34 : PySem.W.keepIn K (.ref f34) = true)
    (tD : K.lookup fD = some ⟨ocD, odD, .seq #[.int 6 tkD] nD, slD⟩)
    (pg : PySem.W.plainGet K cW Str.empty = true)
    (hdW : PySem.W.hasDictIn K cW = true)
    (po : PySem.W.plainOver K cW = true)
    (sa : PySem.W.findIn K (.ref cW) "__setattr__" = some (some (.builtin "object.__setattr__")))
    (mk : PySem.W.makesIn K cW = true)
    (kc : PySem.W.keepIn K (.ref cW) = true)
    (n_table : PySem.W.findIn K (.ref cW) "table" = some none)
    (n_squares : PySem.W.findIn K (.ref cW) "squares" = some none)
    (n_place : PySem.W.findIn K (.ref cW) "place" = some none)
    (n_heading : PySem.W.findIn K (.ref cW) "heading" = some none)
    (n_state : PySem.W.findIn K (.ref cW) "state" = some none)
    (n_done : PySem.W.findIn K (.ref cW) "done" = some none)
    (z_len : PySem.W.nsIn K mainGlobals "len" = some none)
    (z_isinstance : PySem.W.nsIn K mainGlobals "isinstance" = some none)
    (z_int : PySem.W.nsIn K mainGlobals "int" = some none)
    (z_bool : PySem.W.nsIn K mainGlobals "bool" = some none)
    (z_tuple : PySem.W.nsIn K mainGlobals "tuple" = some none)
    (z_list : PySem.W.nsIn K mainGlobals "list" = some none)
    (z_str : PySem.W.nsIn K mainGlobals "str" = some none)
    (z_sorted : PySem.W.nsIn K mainGlobals "sorted" = some none)
    (z_set : PySem.W.nsIn K mainGlobals "set" = some none)
    (z_dict : PySem.W.nsIn K mainGlobals "dict" = some none)
    (z_range : PySem.W.nsIn K mainGlobals "range" = some none)
    (z_enumerate : PySem.W.nsIn K mainGlobals "enumerate" = some none)
    (v_MOST_STATES : PySem.W.nsIn K mainGlobals "MOST_STATES" = some (some (.int 10 tk_MOST_STATES)))
    (v_MOST_COLOURS : PySem.W.nsIn K mainGlobals "MOST_COLOURS" = some (some (.int 6 tk_MOST_COLOURS)))
    (v_MOST_SQUARES : PySem.W.nsIn K mainGlobals "MOST_SQUARES" = some (some (.int 4000 tk_MOST_SQUARES)))
    (v_MOST_STEPS : PySem.W.nsIn K mainGlobals "MOST_STEPS" = some (some (.int 100000 tk_MOST_STEPS)))
    (v_FAR : PySem.W.nsIn K mainGlobals "FAR" = some (some (.int (10 ^ 60) tk_FAR)))
    (aH : PySem.W.nsIn K mainGlobals "HEADINGS" = some (some (.ref hA)))
    (lH : K.lookup hA = some ⟨.type "tuple", dH, .seq #[.ref h0, .ref h1, .ref h2, .ref h3] nH, slH⟩)
    (lH0 : K.lookup h0 = some ⟨.type "tuple", dH0, .seq #[.int (0) tx0, .int (-1) ty0] nH0, slH0⟩)
    (lH1 : K.lookup h1 = some ⟨.type "tuple", dH1, .seq #[.int (1) tx1, .int (0) ty1] nH1, slH1⟩)
    (lH2 : K.lookup h2 = some ⟨.type "tuple", dH2, .seq #[.int (0) tx2, .int (1) ty2] nH2, slH2⟩)
    (lH3 : K.lookup h3 = some ⟨.type "tuple", dH3, .seq #[.int (-1) tx3, .int (0) ty3] nH3, slH3⟩)
    (aE : PySem.W.nsIn K mainGlobals "WalkError" = some (some (.ref cE)))
    (aN : PySem.W.nsIn K mainGlobals "NoWayBack" = some (some (.ref cN)))
    (xN : PySem.W.excIn K cN [.type "ValueError", .type "Exception", .type "BaseException", .type "object"] "ValueError.__new__" = true)
    (kN : PySem.W.keepIn K (.ref cN) = true)
    (bN : PySem.W.subIn K (.ref cN) (.type "BaseException") = some true)
    (tN : PySem.W.typeIn K (.ref cN) = some (.type "type"))
    (bE : PySem.W.subIn K (.ref cE) (.type "BaseException") = some true)
    (dE : PySem.W.hasDictIn K cE = true)
    (tE : PySem.W.typeIn K (.ref cE) = some (.type "type"))
    (sNE : PySem.W.subIn K (.ref cN) (.ref cE) = some true)
    (e1 : PySem.W.findIn K (.ref cN) "__getattribute__" = some (some (.builtin "BaseException.__getattribute__")))
    (e2 : PySem.W.findIn K (.ref cN) "__getattr__" = some none)
    (e4 : PySem.W.hasDictIn K cN = true)
    (e5 : PySem.W.findIn K (.ref cN) "__class__" = some (some (.builtin "object.__class__")))
    (e6 : PySem.W.specialIn K (.builtin "object.__class__") "__get__" = some (some (.builtin "getset_descriptor.__get__")))
    (e7 : PySem.W.takesIn K (.builtin "object.__class__") = some true)
    (e8 : PySem.W.mroIn K cN (.type "object") = some true) :
    ∃ fd : FuncData, (∀ (s : Shared) (v : Value), BindsTo s fd ⟨[v], []⟩ [("_law_script", v)]) ∧ ∀ base : Heap, K.In base → base.Ns mainGlobals mg → FnOk l.prog w K mg base CX0 8 fa fd ["_law_script"] (spLaw K) := by
  have e := hfa.symm.trans (PySem.W.mg_of X G a34)
  cases e
  have T : Txt K mg cW cE cN hA h0 h1 h2 h3 := {
    d_is_in := ⟨f0, _, ⟨_, _, _, _, _, _, _, _, _, _, rfl, l0, c0⟩, k0, PySem.W.mg_of X G a0, Binds.all fun us hl => match us, hl with | [_, _, _], _ => rfl⟩
    d_is_entry := ⟨f1, _, ⟨_, _, _, _, _, _, _, _, _, _, rfl, l1, c1⟩, k1, PySem.W.mg_of X G a1, Binds.all fun us hl => match us, hl with | [_, _, _], _ => rfl⟩
    d_is_table := ⟨f2, _, ⟨_, _, _, _, _, _, _, _, _, _, rfl, l2, c2⟩, k2, PySem.W.mg_of X G a2, Binds.all fun us hl => match us, hl with | [_], _ => rfl⟩
    d_need_table := ⟨f3, _, ⟨_, _, _, _, _, _, _, _, _, _, rfl, l3, c3⟩, k3, PySem.W.mg_of X G a3, Binds.all fun us hl => match us, hl with | [_], _ => rfl⟩
    d_is_place := ⟨f4, _, ⟨_, _, _, _, _, _, _, _, _, _, rfl, l4, c4⟩, k4, PySem.W.mg_of X G a4, Binds.all fun us hl => match us, hl with | [_], _ => rfl⟩
    d_is_square := ⟨f5, _, ⟨_, _, _, _, _, _, _, _, _, _, rfl, l5, c5⟩, k5, PySem.W.mg_of X G a5, Binds.all fun us hl => match us, hl with | [_, _], _ => rfl⟩
    d_need_floor := ⟨f6, _, ⟨_, _, _, _, _, _, _, _, _, _, rfl, l6, c6⟩, k6, PySem.W.mg_of X G a6, needFloor_binds l6 c6 k6 tD⟩
    d_squares_of := ⟨f7, _, ⟨_, _, _, _, _, _, _, _, _, _, rfl, l7, c7⟩, k7, PySem.W.mg_of X G a7, Binds.all fun us hl => match us, hl with | [_], _ => rfl⟩
    d_floor_of := ⟨f8, _, ⟨_, _, _, _, _, _, _, _, _, _, rfl, l8, c8⟩, k8, PySem.W.mg_of X G a8, Binds.all fun us hl => match us, hl with | [_], _ => rfl⟩
    d_is_walker := ⟨f9, _, ⟨_, _, _, _, _, _, _, _, _, _, rfl, l9, c9⟩, k9, PySem.W.mg_of X G a9, Binds.all fun us hl => match us, hl with | [_, _], _ => rfl⟩
    d_need_stand := ⟨f10, _, ⟨_, _, _, _, _, _, _, _, _, _, rfl, l10, c10⟩, k10, PySem.W.mg_of X G a10, Binds.all fun us hl => match us, hl with | [_, _, _], _ => rfl⟩
    d_Walkx_initx := ⟨f11, _, ⟨_, _, _, _, _, _, _, _, _, _, rfl, l11, c11⟩, ⟨mk, a11, i11, kc⟩, PySem.W.mg_of X G mW, Binds.all fun us hl => match us, hl with | [_, _, _, _], _ => rfl⟩
    d_Walk_colour := ⟨f12, _, ⟨_, _, _, _, _, _, _, _, _, _, rfl, l12, c12⟩, ⟨a12, i12, k12⟩, Binds.all fun us hl => match us, hl with | [_], _ => rfl⟩
    d_Walk_entry := ⟨f13, _, ⟨_, _, _, _, _, _, _, _, _, _, rfl, l13, c13⟩, ⟨a13, i13, k13⟩, Binds.all fun us hl => match us, hl with | [_], _ => rfl⟩
    d_Walk_walker := ⟨f14, _, ⟨_, _, _, _, _, _, _, _, _, _, rfl, l14, c14⟩, ⟨a14, i14, k14⟩, Binds.all fun us hl => match us, hl with | [_], _ => rfl⟩
    d_Walk_step := ⟨f15, _, ⟨_, _, _, _, _, _, _, _, _, _, rfl, l15, c15⟩, ⟨a15, i15, k15⟩, Binds.all fun us hl => match us, hl with | [_], _ => rfl⟩
    d_Walk_go := ⟨f16, _, ⟨_, _, _, _, _, _, _, _, _, _, rfl, l16, c16⟩, ⟨a16, i16, k16⟩, Binds.all fun us hl => match us, hl with | [_, _], _ => rfl⟩
    d_Walk_stand := ⟨f17, _, ⟨_, _, _, _, _, _, _, _, _, _, rfl, l17, c17⟩, ⟨a17, i17, k17⟩, Binds.all fun us hl => match us, hl with | [_], _ => rfl⟩
    d_walk := ⟨f18, _, ⟨_, _, _, _, _, _, _, _, _, _, rfl, l18, c18⟩, k18, PySem.W.mg_of X G a18, Binds.all fun us hl => match us, hl with | [_, _, _, _], _ => rfl⟩
    d_sources_in := ⟨f19, _, ⟨_, _, _, _, _, _, _, _, _, _, rfl, l19, c19⟩, k19, PySem.W.mg_of X G a19, Binds.all fun us hl => match us, hl with | [_], _ => rfl⟩
    d_can_be_undone := ⟨f20, _, ⟨_, _, _, _, _, _, _, _, _, _, rfl, l20, c20⟩, k20, PySem.W.mg_of X G a20, Binds.all fun us hl => match us, hl with | [_], _ => rfl⟩
    d_step_back := ⟨f21, _, ⟨_, _, _, _, _, _, _, _, _, _, rfl, l21, c21⟩, k21, PySem.W.mg_of X G a21, Binds.all fun us hl => match us, hl with | [_, _, _, _], _ => rfl⟩
    d_back := ⟨f22, _, ⟨_, _, _, _, _, _, _, _, _, _, rfl, l22, c22⟩, k22, PySem.W.mg_of X G a22, Binds.all fun us hl => match us, hl with | [_, _, _, _], _ => rfl⟩
    d__law_taken := ⟨f23, _, ⟨_, _, _, _, _, _, _, _, _, _, rfl, l23, c23⟩, k23, PySem.W.mg_of X G a23, Binds.all fun us hl => match us, hl with | [_, _], _ => rfl⟩
    d__law_pick := ⟨f24, _, ⟨_, _, _, _, _, _, _, _, _, _, rfl, l24, c24⟩, k24, PySem.W.mg_of X G a24, Binds.all fun us hl => match us, hl with | [_, _], _ => rfl⟩
    d__law_table := ⟨f25, _, ⟨_, _, _, _, _, _, _, _, _, _, rfl, l25, c25⟩, k25, PySem.W.mg_of X G a25, Binds.all fun us hl => match us, hl with | [_], _ => rfl⟩
    d__law_alike := ⟨f26, _, ⟨_, _, _, _, _, _, _, _, _, _, rfl, l26, c26⟩, k26, PySem.W.mg_of X G a26, Binds.all fun us hl => match us, hl with | [_, _], _ => rfl⟩
    d__law_signed := ⟨f27, _, ⟨_, _, _, _, _, _, _, _, _, _, rfl, l27, c27⟩, k27, PySem.W.mg_of X G a27, Binds.all fun us hl => match us, hl with | [_, _], _ => rfl⟩
    d__law_some_floor := ⟨f28, _, ⟨_, _, _, _, _, _, _, _, _, _, rfl, l28, c28⟩, k28, PySem.W.mg_of X G a28, Binds.all fun us hl => match us, hl with | [_, _, _], _ => rfl⟩
    d__law_walker := ⟨f29, _, ⟨_, _, _, _, _, _, _, _, _, _, rfl, l29, c29⟩, k29, PySem.W.mg_of X G a29, Binds.all fun us hl => match us, hl with | [_, _], _ => rfl⟩
    d__law_ahead := ⟨f30, _, ⟨_, _, _, _, _, _, _, _, _, _, rfl, l30, c30⟩, k30, PySem.W.mg_of X G a30, Binds.all fun us hl => match us, hl with | [_, _], _ => rfl⟩
    d__law_floor := ⟨f31, _, ⟨_, _, _, _, _, _, _, _, _, _, rfl, l31, c31⟩, k31, PySem.W.mg_of X G a31, Binds.all fun us hl => match us, hl with | [_], _ => rfl⟩
    d__law_undone_table := ⟨f32, _, ⟨_, _, _, _, _, _, _, _, _, _, rfl, l32, c32⟩, k32, PySem.W.mg_of X G a32, Binds.all fun us hl => match us, hl with | [_], _ => rfl⟩
    d__law_sources := ⟨f33, _, ⟨_, _, _, _, _, _, _, _, _, _, rfl, l33, c33⟩, k33, PySem.W.mg_of X G a33, Binds.all fun us hl => match us, hl with | [_, _, _], _ => rfl⟩
    d_law := ⟨fa, _, ⟨_, _, _, _, _, _, _, _, _, _, rfl, l34, c34⟩, k34, PySem.W.mg_of X G a34, Binds.all fun us hl => match us, hl with | [_], _ => rfl⟩
    zlen := PySem.W.mg_none_of X G z_len
    zisinstance := PySem.W.mg_none_of X G z_isinstance
    zint := PySem.W.mg_none_of X G z_int
    zbool := PySem.W.mg_none_of X G z_bool
    ztuple := PySem.W.mg_none_of X G z_tuple
    zlist := PySem.W.mg_none_of X G z_list
    zstr := PySem.W.mg_none_of X G z_str
    zsorted := PySem.W.mg_none_of X G z_sorted
    zset := PySem.W.mg_none_of X G z_set
    zdict := PySem.W.mg_none_of X G z_dict
    zrange := PySem.W.mg_none_of X G z_range
    zenumerate := PySem.W.mg_none_of X G z_enumerate
    cMOST_STATES := ⟨_, PySem.W.mg_of X G v_MOST_STATES, _, rfl⟩
    cMOST_COLOURS := ⟨_, PySem.W.mg_of X G v_MOST_COLOURS, _, rfl⟩
    cFAR := ⟨_, PySem.W.mg_of X G v_FAR, _, rfl⟩
    cMOST_SQUARES := ⟨_, PySem.W.mg_of X G v_MOST_SQUARES, _, rfl⟩
    cMOST_STEPS := ⟨_, PySem.W.mg_of X G v_MOST_STEPS, _, rfl⟩
    kW := ⟨pg, hdW, po, sa⟩
    mW := PySem.W.mg_of X G mW
    nF := nF_of n_table n_squares n_place n_heading n_state n_done
    cH := PySem.W.mg_of X G aH
    sH := fun _ => .inr ⟨_, _, _, lH, rfl, rfl, (by show 4 ≤ sizeLine; decide), .cons rfl (.cons rfl (.cons rfl (.cons rfl .nil)))⟩
    sH0 := fun _ => .inr ⟨_, _, _, lH0, rfl, rfl, (by show 2 ≤ sizeLine; decide), .cons ⟨_, rfl⟩ (.cons ⟨_, rfl⟩ .nil)⟩
    sH1 := fun _ => .inr ⟨_, _, _, lH1, rfl, rfl, (by show 2 ≤ sizeLine; decide), .cons ⟨_, rfl⟩ (.cons ⟨_, rfl⟩ .nil)⟩
    sH2 := fun _ => .inr ⟨_, _, _, lH2, rfl, rfl, (by show 2 ≤ sizeLine; decide), .cons ⟨_, rfl⟩ (.cons ⟨_, rfl⟩ .nil)⟩
    sH3 := fun _ => .inr ⟨_, _, _, lH3, rfl, rfl, (by show 2 ≤ sizeLine; decide), .cons ⟨_, rfl⟩ (.cons ⟨_, rfl⟩ .nil)⟩
    mE := PySem.W.mg_of X G aE
    mN := PySem.W.mg_of X G aN
    xN := xN
    kN := kN
    bN := bN
    tN := tN
    nE := PySem.W.exm_ref bE dE tE sNE
    eN := ⟨e1, e2, bN, e4, e5, e6, e7, e8⟩
    iN := kit_self }
  exact ⟨_, fun s v => .of_eq rfl, fun base _ _ => ok_law T ⟨_, _, _, _, _, _, _, _, _, _, rfl, l34, c34⟩⟩
theorem walk {l : PySem.W.OpenLaw} {q : Program} {loose : List Str} {XP : (Str → Option Value) → Heap → Prop} {YP : World → Heap → Prop} {d : DefRec} {K : Params → PySem.W.Frag} (hn : l.most = some 63) (hdf : d.params.defaults = [])
    (hY : ∀ (w : World) (h : Heap), YP w h → (K w.params).In h)
    (F : ∀ (w : World) (mg : Str → Option Value) (fa : Addr) (h : Heap), (K w.params).In h → h.Ns mainGlobals mg → mg d.name = some (.ref fa) →
      ∃ fd : FuncData, (∀ (s : Shared) (u : Value), BindsTo s fd ⟨[u], []⟩ [("_law_script", u)]) ∧ ∀ base : Heap, (K w.params).In base → base.Ns mainGlobals mg → FnOk l.prog w (K w.params) mg base CX0 8 fa fd ["_law_script"] (spLaw (K w.params))) :
    PySem.W.WalkO q loose XP YP l.row.toRowW d [] (fun f vs => PySem.call f vs) :=
  L2.walk_of (n := 63) (k := 8) (x := "_law_script") (CX := fun _ => CX0) (sp := fun w => spLaw (K w.params)) hn (by decide) hdf ⟨rfl, by decide, by decide⟩ hY F (fun _ _ a ns hl _ hS => ⟨a, ns, rfl, hS, hl, fun _ => rfl⟩) fun _ _ _ _ _ z => z
end WayP

open PySem PySem.W PyProof.Rows in
set_option maxRecDepth 100000 in
set_option maxHeartbeats 0 in
theorem PySem.Challenge.cw_streetpapers_k03_whole_ways_back_holds : PySem.Challenge.rw_streetpapers_k03_whole_ways_back.Holds := by
  w_on; o_law; k_head; (case hw => w_witness2)
  k_fill
  refine WayP.walk (l := PySem.Challenge.rw_streetpapers_k03_whole_ways_back) rfl rfl (fun w h Y => PySem.W.kIn_of Y) ?F
  case F =>
    intro w mg fa h KX G hmg
    refine' WayP.all_mk KX G hmg ?mW ?a0 ?l0 ?c0 ?k0 ?a1 ?l1 ?c1 ?k1 ?a2 ?l2 ?c2 ?k2 ?a3 ?l3 ?c3 ?k3 ?a4 ?l4 ?c4 ?k4 ?a5 ?l5 ?c5 ?k5 ?a6 ?l6 ?c6 ?k6 ?a7 ?l7 ?c7 ?k7 ?a8 ?l8 ?c8 ?k8 ?a9 ?l9 ?c9 ?k9 ?a10 ?l10 ?c10 ?k10 ?a11 ?i11 ?l11 ?c11 ?k11 ?a12 ?i12 ?l12 ?c12 ?k12 ?a13 ?i13 ?l13 ?c13 ?k13 ?a14 ?i14 ?l14 ?c14 ?k14 ?a15 ?i15 ?l15 ?c15 ?k15 ?a16 ?i16 ?l16 ?c16 ?k16 ?a17 ?i17 ?l17 ?c17 ?k17 ?a18 ?l18 ?c18 ?k18 ?a19 ?l19 ?c19 ?k19 ?a20 ?l20 ?c20 ?k20 ?a21 ?l21 ?c21 ?k21 ?a22 ?l22 ?c22 ?k22 ?a23 ?l23 ?c23 ?k23 ?a24 ?l24 ?c24 ?k24 ?a25 ?l25 ?c25 ?k25 ?a26 ?l26 ?c26 ?k26 ?a27 ?l27 ?c27 ?k27 ?a28 ?l28 ?c28 ?k28 ?a29 ?l29 ?c29 ?k29 ?a30 ?l30 ?c30 ?k30 ?a31 ?l31 ?c31 ?k31 ?a32 ?l32 ?c32 ?k32 ?a33 ?l33 ?c33 ?k33 ?a34 ?l34 ?c34 ?k34 ?tD ?pg ?hdW ?po ?sa ?mk ?kc ?n_table ?n_squares ?n_place ?n_heading ?n_state ?n_done ?z_len ?z_isinstance ?z_int ?z_bool ?z_tuple ?z_list ?z_str ?z_sorted ?z_set ?z_dict ?z_range ?z_enumerate ?v_MOST_STATES ?v_MOST_COLOURS ?v_MOST_SQUARES ?v_MOST_STEPS ?v_FAR ?aH ?lH ?lH0 ?lH1 ?lH2 ?lH3 ?aE ?aN ?xN ?kN ?bN ?tN ?bE ?dE ?tE ?sNE ?e1 ?e2 ?e4 ?e5 ?e6 ?e7 ?e8
    (case mW => k_is)
    (case a0 => k_is)
    (case l0 => k_is)
    (case c0 => k_is)
    (case k0 => k_is)
    (case a1 => k_is)
    (case l1 => k_is)
    (case c1 => k_is)
    (case k1 => k_is)
    (case a2 => k_is)
    (case l2 => k_is)
    (case c2 => k_is)
    (case k2 => k_is)
    (case a3 => k_is)
    (case l3 => k_is)
    (case c3 => k_is)
    (case k3 => k_is)
    (case a4 => k_is)
    (case l4 => k_is)
    (case c4 => k_is)
    (case k4 => k_is)
    (case a5 => k_is)
    (case l5 => k_is)
    (case c5 => k_is)
    (case k5 => k_is)
    (case a6 => k_is)
    (case l6 => k_is)
    (case c6 => k_is)
    (case k6 => k_is)
    (case a7 => k_is)
    (case l7 => k_is)
    (case c7 => k_is)
    (case k7 => k_is)
    (case a8 => k_is)
    (case l8 => k_is)
    (case c8 => k_is)
    (case k8 => k_is)
    (case a9 => k_is)
    (case l9 => k_is)
    (case c9 => k_is)
    (case k9 => k_is)
    (case a10 => k_is)
    (case l10 => k_is)
    (case c10 => k_is)
    (case k10 => k_is)
    (case a11 => k_is)
    (case i11 => k_is)
    (case l11 => k_is)
    (case c11 => k_is)
    (case k11 => k_is)
    (case a12 => k_is)
    (case i12 => k_is)
    (case l12 => k_is)
    (case c12 => k_is)
    (case k12 => k_is)
    (case a13 => k_is)
    (case i13 => k_is)
    (case l13 => k_is)
    (case c13 => k_is)
    (case k13 => k_is)
    (case a14 => k_is)
    (case i14 => k_is)
    (case l14 => k_is)
    (case c14 => k_is)
    (case k14 => k_is)
    (case a15 => k_is)
    (case i15 => k_is)
    (case l15 => k_is)
    (case c15 => k_is)
    (case k15 => k_is)
    (case a16 => k_is)
    (case i16 => k_is)
    (case l16 => k_is)
    (case c16 => k_is)
    (case k16 => k_is)
    (case a17 => k_is)
    (case i17 => k_is)
    (case l17 => k_is)
    (case c17 => k_is)
    (case k17 => k_is)
    (case a18 => k_is)
    (case l18 => k_is)
    (case c18 => k_is)
    (case k18 => k_is)
    (case a19 => k_is)
    (case l19 => k_is)
    (case c19 => k_is)
    (case k19 => k_is)
    (case a20 => k_is)
    (case l20 => k_is)
    (case c20 => k_is)
    (case k20 => k_is)
    (case a21 => k_is)
    (case l21 => k_is)
    (case c21 => k_is)
    (case k21 => k_is)
    (case a22 => k_is)
    (case l22 => k_is)
    (case c22 => k_is)
    (case k22 => k_is)
    (case a23 => k_is)
    (case l23 => k_is)
    (case c23 => k_is)
    (case k23 => k_is)
    (case a24 => k_is)
    (case l24 => k_is)
    (case c24 => k_is)
    (case k24 => k_is)
    (case a25 => k_is)
    (case l25 => k_is)
    (case c25 => k_is)
    (case k25 => k_is)
    (case a26 => k_is)
    (case l26 => k_is)
    (case c26 => k_is)
    (case k26 => k_is)
    (case a27 => k_is)
    (case l27 => k_is)
    (case c27 => k_is)
    (case k27 => k_is)
    (case a28 => k_is)
    (case l28 => k_is)
    (case c28 => k_is)
    (case k28 => k_is)
    (case a29 => k_is)
    (case l29 => k_is)
    (case c29 => k_is)
    (case k29 => k_is)
    (case a30 => k_is)
    (case l30 => k_is)
    (case c30 => k_is)
    (case k30 => k_is)
    (case a31 => k_is)
    (case l31 => k_is)
    (case c31 => k_is)
    (case k31 => k_is)
    (case a32 => k_is)
    (case l32 => k_is)
    (case c32 => k_is)
    (case k32 => k_is)
    (case a33 => k_is)
    (case l33 => k_is)
    (case c33 => k_is)
    (case k33 => k_is)
    (case a34 => k_is)
    (case l34 => k_is)
    (case c34 => k_is)
    (case k34 => k_is)
    (case tD => k_is)
    (case pg => k_is)
    (case hdW => k_is)
    (case po => k_is)
    (case sa => k_is)
    (case mk => k_is)
    (case kc => k_is)
    (case n_table => k_is)
    (case n_squares => k_is)
    (case n_place => k_is)
    (case n_heading => k_is)
    (case n_state => k_is)
    (case n_done => k_is)
    (case z_len => k_is)
    (case z_isinstance => k_is)
    (case z_int => k_is)
    (case z_bool => k_is)
    (case z_tuple => k_is)
    (case z_list => k_is)
    (case z_str => k_is)
    (case z_sorted => k_is)
    (case z_set => k_is)
    (case z_dict => k_is)
    (case z_range => k_is)
    (case z_enumerate => k_is)
    (case v_MOST_STATES => k_is)
    (case v_MOST_COLOURS => k_is)
    (case v_MOST_SQUARES => k_is)
    (case v_MOST_STEPS => k_is)
    (case v_FAR => k_is)
    (case aH => k_is)
    (case lH => k_is)
    (case lH0 => k_is)
    (case lH1 => k_is)
    (case lH2 => k_is)
    (case lH3 => k_is)
    (case aE => k_is)
    (case aN => k_is)
    (case xN => k_exc)
    (case kN => k_is)
    (case bN => k_is)
    (case tN => k_is)
    (case bE => k_is)
    (case dE => k_is)
    (case tE => k_is)
    (case sNE => k_is)
    (case e1 => k_is)
    (case e2 => k_is)
    (case e4 => k_is)
    (case e5 => k_is)
    (case e6 => k_is)
    (case e7 => k_is)
    (case e8 => k_is)
