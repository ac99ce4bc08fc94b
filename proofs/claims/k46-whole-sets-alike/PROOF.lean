import PyProof.Rows.All
import Wide.All
import OpenK.AllK
import Wide.FinOn
import KE.KStateDown
import HandS.ForMost
import HandS.More
import HandS.Defaults
import HandS.Flow
import HandS.IsInst
import HandS.SortInts
import HandS.Zip
import HandS.Style
import HandS.Head0
import HandS.Head1
import HandS.Head2
import HandS.HeadEnd
import HandS.HeadHook1
import HandS.HeadHook2
import HandS.Evl
import PySem.Challenge.RW_rowmill_k46_whole_sets_alike
set_option Elab.async false
set_option linter.all false
set_option maxRecDepth 100000
set_option maxHeartbeats 8000000
/-! The plain law: a near memory's lines as plain data. -/
namespace RM
/-- a line: its number, its words, whether it was changed -/
structure Ln where
  num : Nat
  ws : List Int
  ch : Bool
/-- a near memory and its slow one: the slow words, the sets -/
structure Mm where
  cells : List Int
  rooms : List (List Ln)
/-- the words of line n -/
def four (c : List Int) (n : Nat) : List Int := (c.drop (4 * n)).take 4
def putFour (c : List Int) (n : Nat) (w : List Int) : List Int := c.take (4 * n) ++ w ++ c.drop (4 * n + 4)

theorem four_get (c : List Int) (n i : Nat) : (four c n)[i]? = if i < 4 then c[4 * n + i]? else none := by
  unfold four
  rw [List.getElem?_take]
  split
  · rw [List.getElem?_drop]
  · rfl
theorem four_len {c : List Int} {n L : Nat} (h : c.length = 4 * L) (hn : n < L) : (four c n).length = 4 := by
  unfold four
  rw [List.length_take, List.length_drop]
  omega
theorem four_ext {c d : List Int} {n : Nat} (h : ∀ i, i < 4 → c[4 * n + i]? = d[4 * n + i]?) : four c n = four d n := by
  apply List.ext_getElem?
  intro i
  rw [four_get, four_get]
  split
  · exact h i (by assumption)
  · rfl
theorem putFour_len {c : List Int} {n L : Nat} {w : List Int} (h : c.length = 4 * L) (hn : n < L) (hw : w.length = 4) : (putFour c n w).length = 4 * L := by
  unfold putFour
  rw [List.length_append, List.length_append, List.length_take, List.length_drop]
  omega
theorem putFour_get {c : List Int} {n L : Nat} {w : List Int} (h : c.length = 4 * L) (hn : n < L) (hw : w.length = 4) (i : Nat) :
    (putFour c n w)[i]? = if 4 * n ≤ i ∧ i < 4 * n + 4 then w[i - 4 * n]? else c[i]? := by
  unfold putFour
  have h1 : (c.take (4 * n)).length = 4 * n := by rw [List.length_take]; omega
  have h2 : (c.take (4 * n) ++ w).length = 4 * n + 4 := by rw [List.length_append, h1, hw]
  by_cases a : i < 4 * n
  · rw [if_neg (by omega), List.getElem?_append_left (by omega), List.getElem?_append_left (by omega), List.getElem?_take, if_pos a]
  · by_cases b : i < 4 * n + 4
    · rw [if_pos (by omega), List.getElem?_append_left (by omega), List.getElem?_append_right (by omega), h1]
    · rw [if_neg (by omega), List.getElem?_append_right (by omega), h2, List.getElem?_drop]
      congr 1
      omega
theorem four_put_same {c : List Int} {n L : Nat} {w : List Int} (h : c.length = 4 * L) (hn : n < L) (hw : w.length = 4) : four (putFour c n w) n = w := by
  apply List.ext_getElem?
  intro i
  rw [four_get]
  split
  · rw [putFour_get h hn hw, if_pos (by omega)]
    congr 1
    omega
  · rw [List.getElem?_eq_none (by omega)]
theorem four_put_ne {c : List Int} {n k L : Nat} {w : List Int} (h : c.length = 4 * L) (hn : n < L) (hw : w.length = 4) (hk : k ≠ n) : four (putFour c n w) k = four c k := by
  apply four_ext
  intro i hi
  rw [putFour_get h hn hw, if_neg (by omega)]
theorem four_set_same {c : List Int} {a n : Nat} {w : Int} (hn : a / 4 = n) : four (c.set a w) n = (four c n).set (a % 4) w := by
  apply List.ext_getElem?
  intro i
  have hl : (four c n).length = min 4 (c.length - 4 * n) := by unfold four; rw [List.length_take, List.length_drop]
  rw [four_get, List.getElem?_set (l := four c n), List.getElem?_set (l := c), four_get, hl]
  by_cases hi : i < 4
  · rw [if_pos hi]
    by_cases e : a = 4 * n + i
    · rw [if_pos e, if_pos (show a % 4 = i by omega)]
      by_cases hc : a < c.length
      · rw [if_pos hc, if_pos (show a % 4 < min 4 (c.length - 4 * n) by omega)]
      · rw [if_neg hc, if_neg (show ¬ a % 4 < min 4 (c.length - 4 * n) by omega)]
    · rw [if_neg e, if_neg (show ¬ a % 4 = i by omega), if_pos hi]
  · rw [if_neg hi, if_neg (show ¬ a % 4 = i by omega), if_neg hi]
theorem four_set_ne {c : List Int} {a n : Nat} {w : Int} (hn : a / 4 ≠ n) : four (c.set a w) n = four c n := by
  apply four_ext
  intro i hi
  rw [List.getElem?_set, if_neg (by omega)]
theorem four_at {c : List Int} {a : Nat} : (four c (a / 4))[a % 4]? = c[a]? := by
  rw [four_get, if_pos (by omega)]
  congr 1
  omega

/-- what holds of a near memory with S sets before a slow one of L lines, in which ws should be told -/
structure Good (S L : Nat) (ws : List Int) (m : Mm) : Prop where
  len : m.rooms.length = S
  wl : ws.length = 4 * L
  cl : m.cells.length = 4 * L
  two : ∀ (j : Nat) (r : List Ln), m.rooms[j]? = some r → r.length ≤ 2 ∧ (r.map Ln.num).Nodup
  at_ : ∀ (j : Nat) (r : List Ln) (l : Ln), m.rooms[j]? = some r → l ∈ r → l.num % S = j ∧ l.num < L ∧ l.ws = four ws l.num
  out : ∀ n, n < L → (∀ (j : Nat) (r : List Ln) (l : Ln), m.rooms[j]? = some r → l ∈ r → l.num = n → l.ch = false) → four m.cells n = four ws n

/-- the set of line n; the line n where it is held -/
def roomOf (m : Mm) (n : Nat) : List Ln := m.rooms.getD (n % m.rooms.length) []
def lineOf (m : Mm) (n : Nat) : Option Ln := (roomOf m n).find? fun l => l.num == n
def wb (c : List Int) (l : Ln) : List Int := if l.ch = true then putFour c l.num l.ws else c
/-- where set k is full its last line goes -/
def evict (m : Mm) (k : Nat) : Mm := match m.rooms.getD k [] with
  | [a, b] => ⟨wb m.cells b, m.rooms.set k [a]⟩
  | _ => m
def others (r : List Ln) (n : Nat) : List Ln := r.filter fun o => o.num != n
/-- line n comes, first of its set -/
def come (m : Mm) (n : Nat) : Mm := match lineOf m n with
  | some l => ⟨m.cells, m.rooms.set (n % m.rooms.length) (l :: others (roomOf m n) n)⟩
  | none => ⟨(evict m (n % m.rooms.length)).cells, (evict m (n % m.rooms.length)).rooms.set (n % m.rooms.length)
      (⟨n, four (evict m (n % m.rooms.length)).cells n, false⟩ :: (evict m (n % m.rooms.length)).rooms.getD (n % m.rooms.length) [])⟩
/-- a word is put at address a, whose line is first of its set -/
def putAt (m : Mm) (a : Nat) (w : Int) : Mm := match roomOf m (a / 4) with
  | l :: r => ⟨m.cells, m.rooms.set (a / 4 % m.rooms.length) (⟨l.num, l.ws.set (a % 4) w, true⟩ :: r)⟩
  | [] => m
/-- line i of set j is written back -/
def backAt (m : Mm) (j i : Nat) (r : List Ln) (l : Ln) : Mm := ⟨wb m.cells l, m.rooms.set j (r.set i ⟨l.num, l.ws, false⟩)⟩

section
variable {S L : Nat} {ws : List Int} {m : Mm}
theorem room_some (hS : 0 < S) (g : Good S L ws m) (n : Nat) : m.rooms[n % S]? = some (roomOf m n) := by
  unfold roomOf
  have h : n % S < m.rooms.length := by rw [g.len]; exact Nat.mod_lt _ hS
  rw [g.len, List.getD_eq_getElem?_getD, List.getElem?_eq_getElem h]
  rfl
theorem set_get {α : Type} {l : List α} {k j : Nat} {x y : α} (h : (l.set k x)[j]? = some y) : (j = k ∧ y = x ∧ k < l.length) ∨ (j ≠ k ∧ l[j]? = some y) := by
  rw [List.getElem?_set] at h
  by_cases e : k = j
  · rw [if_pos e] at h
    split at h
    · exact .inl ⟨e.symm, (Option.some.inj h).symm, by assumption⟩
    · cases h
  · rw [if_neg e] at h
    exact .inr ⟨fun z => e z.symm, h⟩
theorem set_self {α : Type} {l : List α} {k : Nat} {x : α} (h : k < l.length) : (l.set k x)[k]? = some x := by
  rw [List.getElem?_set_self h]
theorem line_some {l : Ln} (h : lineOf m n = some l) : l ∈ roomOf m n ∧ l.num = n := by
  unfold lineOf at h
  exact ⟨List.mem_of_find?_eq_some h, by simpa using List.find?_some h⟩
theorem line_none (h : lineOf m n = none) : ∀ l ∈ roomOf m n, l.num ≠ n := by
  unfold lineOf at h
  intro l hl e
  have := List.find?_eq_none.mp h l hl
  simp [e] at this
/-- a nodup list of lines: the line with a number is one -/
theorem num_one : ∀ {r : List Ln}, (r.map Ln.num).Nodup → ∀ {l o : Ln}, l ∈ r → o ∈ r → l.num = o.num → l = o
  | [], _, l, o, h, _, _ => by cases h
  | x :: r, nd, l, o, hl, ho, e => by
    rw [List.map_cons, List.nodup_cons] at nd
    rcases List.mem_cons.mp hl with rfl | hl'
    · rcases List.mem_cons.mp ho with rfl | ho'
      · rfl
      · exact absurd (List.mem_map.mpr ⟨o, ho', e.symm⟩) nd.1
    · rcases List.mem_cons.mp ho with rfl | ho'
      · exact absurd (List.mem_map.mpr ⟨l, hl', e⟩) nd.1
      · exact num_one nd.2 hl' ho' e

/-- set k is laid anew: r' holds the same lines -/
theorem good_room (g : Good S L ws m) {k : Nat} {r r' : List Ln} (hr : m.rooms[k]? = some r) (h2 : r'.length ≤ 2) (nd : (r'.map Ln.num).Nodup) (sub : ∀ l, l ∈ r' → l ∈ r) (sup : ∀ l, l ∈ r → l.ch = true → l ∈ r') :
    Good S L ws ⟨m.cells, m.rooms.set k r'⟩ := by
  have hk : k < m.rooms.length := (List.getElem?_eq_some_iff.mp hr).1
  refine ⟨by show (m.rooms.set k r').length = S; rw [List.length_set]; exact g.len, g.wl, g.cl, fun j q h => ?_, fun j q l h hl => ?_, fun n hn h => g.out n hn fun j q l hq hl e => ?_⟩
  · rcases set_get h with ⟨rfl, rfl, _⟩ | ⟨_, h⟩
    · exact ⟨h2, nd⟩
    · exact g.two j q h
  · rcases set_get h with ⟨rfl, rfl, _⟩ | ⟨_, h⟩
    · exact g.at_ j r l hr (sub l hl)
    · exact g.at_ j q l h hl
  · by_cases ej : j = k
    · subst ej
      have eq : q = r := Option.some.inj (hq.symm.trans hr)
      subst eq
      cases hc : l.ch with
      | false => rfl
      | true => exact hc.symm.trans (h j r' l (set_self hk) (sup l hl hc) e)
    · exact h j q l (by show (m.rooms.set k r')[j]? = some q; rw [List.getElem?_set_ne (fun z => ej z.symm)]; exact hq) hl e

theorem wb_len {c : List Int} {l : Ln} (h : c.length = 4 * L) (hn : l.num < L) (hw : l.ws.length = 4) : (wb c l).length = 4 * L := by
  unfold wb
  split
  · exact putFour_len h hn hw
  · exact h
theorem wb_four {c : List Int} {l : Ln} (h : c.length = 4 * L) (hn : l.num < L) (hw : l.ws.length = 4) (k : Nat) (hk : k ≠ l.num) : four (wb c l) k = four c k := by
  unfold wb
  split
  · exact four_put_ne h hn hw hk
  · rfl
theorem wb_four_same {c : List Int} {l : Ln} (h : c.length = 4 * L) (hn : l.num < L) (hw : l.ws.length = 4) (hc : l.ch = true) : four (wb c l) l.num = l.ws := by
  unfold wb
  rw [if_pos hc]
  exact four_put_same h hn hw

theorem ws_len (g : Good S L ws m) {j : Nat} {r : List Ln} {l : Ln} (hr : m.rooms[j]? = some r) (hl : l ∈ r) : l.ws.length = 4 := by
  obtain ⟨_, h1, h2⟩ := g.at_ j r l hr hl
  rw [h2]
  exact four_len g.wl h1

/-- line l of set k is written back; set k is laid anew: without it or with it, unchanged -/
theorem good_back (g : Good S L ws m) {k : Nat} {r r' : List Ln} {l : Ln} (hr : m.rooms[k]? = some r) (hl : l ∈ r) (h2 : r'.length ≤ 2) (nd : (r'.map Ln.num).Nodup)
    (sub : ∀ o, o ∈ r' → o ∈ r ∨ o = ⟨l.num, l.ws, false⟩) (sup : ∀ o, o ∈ r → o.num ≠ l.num → o ∈ r') :
    Good S L ws ⟨wb m.cells l, m.rooms.set k r'⟩ := by
  have hk : k < m.rooms.length := (List.getElem?_eq_some_iff.mp hr).1
  obtain ⟨a1, a2, a3⟩ := g.at_ k r l hr hl
  have hw := ws_len g hr hl
  refine ⟨by show (m.rooms.set k r').length = S; rw [List.length_set]; exact g.len, g.wl, wb_len g.cl a2 hw, fun j q h => ?_, fun j q o h ho => ?_, fun n hn h => ?_⟩
  · rcases set_get h with ⟨rfl, rfl, _⟩ | ⟨_, h⟩
    · exact ⟨h2, nd⟩
    · exact g.two j q h
  · rcases set_get h with ⟨rfl, rfl, _⟩ | ⟨_, h⟩
    · rcases sub o ho with ho | rfl
      · exact g.at_ j r o hr ho
      · exact ⟨a1, a2, a3⟩
    · exact g.at_ j q o h ho
  · show four (wb m.cells l) n = four ws n
    by_cases e : n = l.num
    · subst e
      cases hc : l.ch with
      | true => rw [wb_four_same g.cl a2 hw hc]; exact a3
      | false =>
        have : wb m.cells l = m.cells := by unfold wb; rw [hc]; rfl
        rw [this]
        refine g.out _ hn fun j q o hq ho eo => ?_
        have hj : j = k := by
          have := (g.at_ j q o hq ho).1
          rw [eo] at this
          omega
        subst hj
        have eq : q = r := Option.some.inj (hq.symm.trans hr)
        subst eq
        rw [num_one (g.two j q hr).2 ho hl eo]
        exact hc
    · rw [wb_four g.cl a2 hw n e]
      refine g.out n hn fun j q o hq ho eo => ?_
      by_cases ej : j = k
      · subst ej
        have eq : q = r := Option.some.inj (hq.symm.trans hr)
        subst eq
        exact h j r' o (set_self hk) (sup o ho (fun z => e (eo.symm.trans z))) eo
      · exact h j q o (by show (m.rooms.set k r')[j]? = some q; rw [List.getElem?_set_ne (fun z => ej z.symm)]; exact hq) ho eo

theorem evict_rooms_ne (k j : Nat) (h : j ≠ k) : (evict m k).rooms[j]? = m.rooms[j]? := by
  unfold evict
  split
  · show (m.rooms.set k _)[j]? = m.rooms[j]?
    rw [List.getElem?_set_ne (fun z => h z.symm)]
  · rfl
theorem evict_len (k : Nat) : (evict m k).rooms.length = m.rooms.length := by
  unfold evict
  split
  · show (m.rooms.set k _).length = _
    rw [List.length_set]
  · rfl
/-- behind the going of a line: the set has room, its lines were there -/
theorem good_evict (g : Good S L ws m) {k : Nat} {r : List Ln} (hr : m.rooms[k]? = some r) :
    Good S L ws (evict m k) ∧ ∃ r', (evict m k).rooms[k]? = some r' ∧ r'.length ≤ 1 ∧ ∀ l, l ∈ r' → l ∈ r := by
  have hk : k < m.rooms.length := (List.getElem?_eq_some_iff.mp hr).1
  have hd : m.rooms.getD k [] = r := by rw [List.getD_eq_getElem?_getD, hr]; rfl
  obtain ⟨h2, nd⟩ := g.two k r hr
  match r, hd, hr, h2, nd with
  | [], hd, hr, _, _ =>
    have e : evict m k = m := by unfold evict; rw [hd]
    rw [e]
    exact ⟨g, [], hr, by simp, fun _ h => h⟩
  | [a], hd, hr, _, _ =>
    have e : evict m k = m := by unfold evict; rw [hd]
    rw [e]
    exact ⟨g, [a], hr, by simp, fun _ h => h⟩
  | [a, b], hd, hr, _, nd =>
    have e : evict m k = ⟨wb m.cells b, m.rooms.set k [a]⟩ := by unfold evict; rw [hd]
    rw [e]
    refine ⟨good_back g hr (by simp) (by simp) (by simp) (fun o ho => .inl (by simp at ho; simp [ho])) (fun o ho hne => ?_), [a], set_self hk, by simp, fun l hl => by simp at hl; simp [hl]⟩
    simp at ho
    rcases ho with rfl | rfl
    · simp
    · exact absurd rfl hne
  | a :: b :: c :: t, _, _, h2, _ => simp at h2

theorem others_mem {r : List Ln} {n : Nat} {o : Ln} : o ∈ others r n ↔ o ∈ r ∧ o.num ≠ n := by
  unfold others
  rw [List.mem_filter]
  simp
theorem others_none {r : List Ln} {n : Nat} (h : ∀ l ∈ r, l.num ≠ n) : others r n = r := by
  unfold others
  rw [List.filter_eq_self]
  intro l hl
  simpa using h l hl
theorem others_len {r : List Ln} {n : Nat} {l : Ln} (hl : l ∈ r) (e : l.num = n) : (others r n).length < r.length := by
  unfold others
  have h1 := List.length_filter_le (fun o : Ln => o.num != n) r
  rcases Nat.lt_or_ge (r.filter fun o => o.num != n).length r.length with h | h
  · exact h
  · have h3 : (r.filter fun o => o.num != n).length = r.length := Nat.le_antisymm h1 h
    rw [List.length_filter_eq_length_iff] at h3
    have := h3 l hl
    simp [e] at this
theorem others_nd {r : List Ln} {n : Nat} (nd : (r.map Ln.num).Nodup) : ((others r n).map Ln.num).Nodup := by
  unfold others
  exact (List.filter_sublist.map Ln.num).nodup nd

/-- the line comes: what holds behind it, and that it is first -/
theorem good_come (hS : 0 < S) (g : Good S L ws m) {n : Nat} (hn : n < L) :
    Good S L ws (come m n) ∧ ∃ (l : Ln) (r : List Ln), (come m n).rooms[n % S]? = some (l :: r) ∧ l.num = n := by
  have hr := room_some hS g n
  have hk : n % S < m.rooms.length := (List.getElem?_eq_some_iff.mp hr).1
  obtain ⟨h2, nd⟩ := g.two _ _ hr
  unfold come
  rw [g.len]
  split
  · rename_i l hl
    obtain ⟨hm, he⟩ := line_some hl
    refine ⟨good_room g hr ?_ ?_ ?_ ?_, l, _, set_self hk, he⟩
    · have := others_len hm he
      show (others (roomOf m n) n).length + 1 ≤ 2
      omega
    · rw [List.map_cons, List.nodup_cons]
      refine ⟨fun z => ?_, others_nd nd⟩
      obtain ⟨o, ho, eo⟩ := List.mem_map.mp z
      exact (others_mem.mp ho).2 (eo.trans he)
    · intro o ho
      rcases List.mem_cons.mp ho with rfl | ho
      · exact hm
      · exact (others_mem.mp ho).1
    · intro o ho _
      by_cases e : o.num = n
      · rw [num_one nd ho hm (e.trans he.symm)]
        exact List.mem_cons_self
      · exact List.mem_cons_of_mem _ (others_mem.mpr ⟨ho, e⟩)
  · rename_i hl
    have no := line_none hl
    obtain ⟨g1, r1, hr1, h1, sub1⟩ := good_evict g hr
    have e1 : (evict m (n % S)).rooms.getD (n % S) [] = r1 := by rw [List.getD_eq_getElem?_getD, hr1]; rfl
    have hk1 : n % S < (evict m (n % S)).rooms.length := (List.getElem?_eq_some_iff.mp hr1).1
    rw [e1]
    generalize hm1 : evict m (n % S) = m1 at g1 hr1 hk1
    have no1 : ∀ l ∈ r1, l.num ≠ n := fun l h => no l (sub1 l h)
    -- the cells of line n are right: it isn't held
    have hc : four m1.cells n = four ws n := by
      refine g1.out n hn fun j q o hq ho eo => ?_
      have hj : j = n % S := by
        have := (g1.at_ j q o hq ho).1
        rw [eo] at this
        exact this.symm
      subst hj
      have eq : q = r1 := Option.some.inj (hq.symm.trans hr1)
      subst eq
      exact absurd eo (no1 o ho)
    refine ⟨⟨by show (m1.rooms.set _ _).length = S; rw [List.length_set]; exact g1.len, g1.wl, g1.cl, fun j q h => ?_, fun j q o h ho => ?_, fun x hx h => ?_⟩, _, _, set_self hk1, rfl⟩
    · rcases set_get h with ⟨rfl, rfl, _⟩ | ⟨_, h⟩
      · refine ⟨by show r1.length + 1 ≤ 2; omega, ?_⟩
        rw [List.map_cons, List.nodup_cons]
        refine ⟨fun z => ?_, (g1.two _ _ hr1).2⟩
        obtain ⟨o, ho, eo⟩ := List.mem_map.mp z
        exact no1 o ho eo
      · exact g1.two j q h
    · rcases set_get h with ⟨rfl, rfl, _⟩ | ⟨_, h⟩
      · rcases List.mem_cons.mp ho with rfl | ho
        · exact ⟨rfl, hn, hc⟩
        · exact g1.at_ _ _ o hr1 ho
      · exact g1.at_ j q o h ho
    · show four m1.cells x = four ws x
      refine g1.out x hx fun j q o hq ho eo => ?_
      by_cases ej : j = n % S
      · subst ej
        have eq : q = r1 := Option.some.inj (hq.symm.trans hr1)
        subst eq
        exact h _ _ o (set_self hk1) (List.mem_cons_of_mem _ ho) eo
      · exact h j q o (by show (m1.rooms.set _ _)[j]? = some q; rw [List.getElem?_set_ne (fun z => ej z.symm)]; exact hq) ho eo

/-- a word is put into the first line of its set -/
theorem good_put (hS : 0 < S) (g : Good S L ws m) {a : Nat} {w : Int} {l : Ln} {r : List Ln} (hr : m.rooms[a / 4 % S]? = some (l :: r)) (hl : l.num = a / 4) (ha : a / 4 < L) :
    Good S L (ws.set a w) (putAt m a w) ∧ (putAt m a w).rooms[a / 4 % S]? = some (⟨l.num, l.ws.set (a % 4) w, true⟩ :: r) := by
  have hk : a / 4 % S < m.rooms.length := (List.getElem?_eq_some_iff.mp hr).1
  have er : roomOf m (a / 4) = l :: r := Option.some.inj ((room_some hS g (a / 4)).symm.trans hr)
  have e : putAt m a w = ⟨m.cells, m.rooms.set (a / 4 % S) (⟨l.num, l.ws.set (a % 4) w, true⟩ :: r)⟩ := by unfold putAt; rw [er, g.len]
  rw [e]
  obtain ⟨h2, nd⟩ := g.two _ _ hr
  have lr : ∀ o ∈ r, o.num ≠ a / 4 := fun o ho z => by
    rw [List.map_cons, List.nodup_cons] at nd
    exact nd.1 (List.mem_map.mpr ⟨o, ho, z.trans hl.symm⟩)
  refine ⟨⟨by show (m.rooms.set _ _).length = S; rw [List.length_set]; exact g.len, by rw [List.length_set]; exact g.wl, g.cl, fun j q h => ?_, fun j q o h ho => ?_, fun x hx h => ?_⟩, set_self hk⟩
  · rcases set_get h with ⟨rfl, rfl, _⟩ | ⟨_, h⟩
    · exact ⟨h2, nd⟩
    · exact g.two j q h
  · rcases set_get h with ⟨rfl, rfl, _⟩ | ⟨hj, h⟩
    · rcases List.mem_cons.mp ho with rfl | ho
      · obtain ⟨b1, b2, b3⟩ := g.at_ _ _ l hr List.mem_cons_self
        refine ⟨b1, b2, ?_⟩
        show l.ws.set (a % 4) w = four (ws.set a w) l.num
        rw [four_set_same hl.symm, b3]
      · obtain ⟨b1, b2, b3⟩ := g.at_ _ _ o hr (List.mem_cons_of_mem _ ho)
        refine ⟨b1, b2, ?_⟩
        rw [four_set_ne (fun z => lr o ho z.symm)]
        exact b3
    · obtain ⟨b1, b2, b3⟩ := g.at_ _ _ o h ho
      refine ⟨b1, b2, ?_⟩
      rw [four_set_ne (fun z => hj ?_)]
      · exact b3
      · rw [← b1, z]
  · show four m.cells x = four (ws.set a w) x
    have hx' : x ≠ a / 4 := fun z => by
      have := h _ _ ⟨l.num, l.ws.set (a % 4) w, true⟩ (set_self hk) List.mem_cons_self (hl.trans z.symm)
      cases this
    rw [four_set_ne (fun z => hx' z.symm)]
    refine g.out x hx fun j q o hq ho eo => ?_
    by_cases ej : j = a / 4 % S
    · subst ej
      have eq : q = l :: r := Option.some.inj (hq.symm.trans hr)
      subst eq
      rcases List.mem_cons.mp ho with rfl | ho
      · exact absurd (eo.symm.trans hl) hx'
      · exact h _ _ o (set_self hk) (List.mem_cons_of_mem _ ho) eo
    · exact h j q o (by show (m.rooms.set _ _)[j]? = some q; rw [List.getElem?_set_ne (fun z => ej z.symm)]; exact hq) ho eo

/-- a line is written back and held on -/
theorem good_settle (g : Good S L ws m) {j i : Nat} {r : List Ln} {l : Ln} (hr : m.rooms[j]? = some r) (hl : r[i]? = some l) : Good S L ws (backAt m j i r l) := by
  obtain ⟨h2, nd⟩ := g.two _ _ hr
  have hm : l ∈ r := List.mem_of_getElem? hl
  have en : (r.set i ⟨l.num, l.ws, false⟩).map Ln.num = r.map Ln.num := by
    rw [List.map_set]
    apply List.ext_getElem?
    intro x
    rw [List.getElem?_set]
    split
    · rename_i e
      subst e
      rw [List.getElem?_map, hl]
      simp [(List.getElem?_eq_some_iff.mp hl).1]
    · rfl
  refine good_back g hr hm (by rw [List.length_set]; exact h2) (by rw [en]; exact nd) (fun o ho => ?_) (fun o ho hne => ?_)
  · obtain ⟨x, hx⟩ := List.mem_iff_getElem?.mp ho
    rcases set_get hx with ⟨_, e, _⟩ | ⟨_, hx⟩
    · exact .inr e
    · exact .inl (List.mem_of_getElem? hx)
  · obtain ⟨x, hx⟩ := List.mem_iff_getElem?.mp ho
    refine List.mem_of_getElem? (i := x) ?_
    rw [List.getElem?_set_ne (fun z => hne ?_)]
    · exact hx
    · rw [← z, hl] at hx
      rw [Option.some.inj hx]
/-- at first no line is held -/
theorem good_new {c : List Int} (h : c.length = 4 * L) : Good S L c ⟨c, List.replicate S []⟩ := by
  refine ⟨by simp, h, h, fun j r e => ?_, fun j r l e hl => ?_, fun _ _ _ => rfl⟩
  · have : r = [] := by
      rw [List.getElem?_replicate] at e
      split at e
      · exact (Option.some.inj e).symm
      · cases e
    subst this
    simp
  · have : r = [] := by
      rw [List.getElem?_replicate] at e
      split at e
      · exact (Option.some.inj e).symm
      · cases e
    subst this
    cases hl
/-- the line of an address that was just asked is held -/
theorem line_first (hS : 0 < S) (g : Good S L ws m) {n : Nat} {l : Ln} {r : List Ln} (hr : m.rooms[n % S]? = some (l :: r)) (hl : l.num = n) : lineOf m n = some l := by
  have er : roomOf m n = l :: r := Option.some.inj ((room_some hS g n).symm.trans hr)
  unfold lineOf
  rw [er, List.find?_cons_of_pos (by simpa using hl)]
end
end RM

namespace RM
open PySem PySem.Spec PyProof.Rows L2
/-! ### the text by places -/
def top (i : Nat) : Stmt := PySem.Challenge.pw_rowmill_k46_whole_sets_alike.main.body.getD i (.Pass ⟨0, 0, 0, 0⟩)
abbrev sSlow_init : Stmt := inClass (top 8) 0
abbrev sSlow_four : Stmt := inClass (top 8) 1
abbrev sSlow_put_four : Stmt := inClass (top 8) 2
abbrev sSlow_need_line : Stmt := inClass (top 8) 3
abbrev sSlow_whole : Stmt := inClass (top 8) 6
abbrev sSlow_size : Stmt := inClass (top 8) 7
abbrev sLine_init : Stmt := inClass (top 14) 0
abbrev sLine_shown : Stmt := inClass (top 14) 1
abbrev sNear_init : Stmt := inClass (top 15) 0
abbrev sNear_need_address : Stmt := inClass (top 15) 1
abbrev sNear_room_of : Stmt := inClass (top 15) 2
abbrev sNear_line_of : Stmt := inClass (top 15) 3
abbrev sNear_write_back : Stmt := inClass (top 15) 4
abbrev sNear_come_to : Stmt := inClass (top 15) 5
abbrev sNear_get : Stmt := inClass (top 15) 6
abbrev sNear_put : Stmt := inClass (top 15) 7
abbrev sNear_cost : Stmt := inClass (top 15) 8
abbrev sNear_look : Stmt := inClass (top 15) 9
abbrev sNear_settle : Stmt := inClass (top 15) 10
abbrev sNear_held : Stmt := inClass (top 15) 11
abbrev s_law_cell : Stmt := top 17
abbrev s_law_word : Stmt := top 18
abbrev s_law_words : Stmt := top 19
abbrev s_law_address : Stmt := top 20
abbrev s_law_deed_by : Stmt := top 21
abbrev s_law_did : Stmt := top 22
abbrev s_law_whole : Stmt := top 23
abbrev s_law_rows : Stmt := top 24
abbrev s_law_set_right : Stmt := top 25
abbrev s_law_lines_right : Stmt := top 26
abbrev s_law_first : Stmt := top 27
abbrev s_law : Stmt := top 28
/-! ### the facts that the head tells -/
def dSlow_init : He.DefD := ⟨("Slow", some "__init__"), "__init__", "Slow.__init__", defArgs sSlow_init, defBody sSlow_init, defScope sSlow_init, [], []⟩
def dSlow_four : He.DefD := ⟨("Slow", some "four"), "four", "Slow.four", defArgs sSlow_four, defBody sSlow_four, defScope sSlow_four, [], []⟩
def dSlow_put_four : He.DefD := ⟨("Slow", some "put_four"), "put_four", "Slow.put_four", defArgs sSlow_put_four, defBody sSlow_put_four, defScope sSlow_put_four, [], []⟩
def dSlow_need_line : He.DefD := ⟨("Slow", some "need_line"), "need_line", "Slow.need_line", defArgs sSlow_need_line, defBody sSlow_need_line, defScope sSlow_need_line, [], []⟩
def dSlow_whole : He.DefD := ⟨("Slow", some "whole"), "whole", "Slow.whole", defArgs sSlow_whole, defBody sSlow_whole, defScope sSlow_whole, [], []⟩
def dSlow_size : He.DefD := ⟨("Slow", some "size"), "size", "Slow.size", defArgs sSlow_size, defBody sSlow_size, defScope sSlow_size, [], []⟩
def dLine_init : He.DefD := ⟨("Line", some "__init__"), "__init__", "Line.__init__", defArgs sLine_init, defBody sLine_init, defScope sLine_init, [], []⟩
def dLine_shown : He.DefD := ⟨("Line", some "shown"), "shown", "Line.shown", defArgs sLine_shown, defBody sLine_shown, defScope sLine_shown, [], []⟩
def dNear_init : He.DefD := ⟨("Near", some "__init__"), "__init__", "Near.__init__", defArgs sNear_init, defBody sNear_init, defScope sNear_init, [.int 2], []⟩
def dNear_need_address : He.DefD := ⟨("Near", some "need_address"), "need_address", "Near.need_address", defArgs sNear_need_address, defBody sNear_need_address, defScope sNear_need_address, [], []⟩
def dNear_room_of : He.DefD := ⟨("Near", some "room_of"), "room_of", "Near.room_of", defArgs sNear_room_of, defBody sNear_room_of, defScope sNear_room_of, [], []⟩
def dNear_line_of : He.DefD := ⟨("Near", some "line_of"), "line_of", "Near.line_of", defArgs sNear_line_of, defBody sNear_line_of, defScope sNear_line_of, [], []⟩
def dNear_write_back : He.DefD := ⟨("Near", some "write_back"), "write_back", "Near.write_back", defArgs sNear_write_back, defBody sNear_write_back, defScope sNear_write_back, [], []⟩
def dNear_come_to : He.DefD := ⟨("Near", some "come_to"), "come_to", "Near.come_to", defArgs sNear_come_to, defBody sNear_come_to, defScope sNear_come_to, [], []⟩
def dNear_get : He.DefD := ⟨("Near", some "get"), "get", "Near.get", defArgs sNear_get, defBody sNear_get, defScope sNear_get, [], []⟩
def dNear_put : He.DefD := ⟨("Near", some "put"), "put", "Near.put", defArgs sNear_put, defBody sNear_put, defScope sNear_put, [], []⟩
def dNear_cost : He.DefD := ⟨("Near", some "cost"), "cost", "Near.cost", defArgs sNear_cost, defBody sNear_cost, defScope sNear_cost, [], []⟩
def dNear_look : He.DefD := ⟨("Near", some "look"), "look", "Near.look", defArgs sNear_look, defBody sNear_look, defScope sNear_look, [], []⟩
def dNear_settle : He.DefD := ⟨("Near", some "settle"), "settle", "Near.settle", defArgs sNear_settle, defBody sNear_settle, defScope sNear_settle, [], []⟩
def dNear_held : He.DefD := ⟨("Near", some "held"), "held", "Near.held", defArgs sNear_held, defBody sNear_held, defScope sNear_held, [], []⟩
def d_law_cell : He.DefD := ⟨("_law_cell", none), "_law_cell", "_law_cell", defArgs s_law_cell, defBody s_law_cell, defScope s_law_cell, [], []⟩
def d_law_word : He.DefD := ⟨("_law_word", none), "_law_word", "_law_word", defArgs s_law_word, defBody s_law_word, defScope s_law_word, [], []⟩
def d_law_words : He.DefD := ⟨("_law_words", none), "_law_words", "_law_words", defArgs s_law_words, defBody s_law_words, defScope s_law_words, [], []⟩
def d_law_address : He.DefD := ⟨("_law_address", none), "_law_address", "_law_address", defArgs s_law_address, defBody s_law_address, defScope s_law_address, [], []⟩
def d_law_deed_by : He.DefD := ⟨("_law_deed_by", none), "_law_deed_by", "_law_deed_by", defArgs s_law_deed_by, defBody s_law_deed_by, defScope s_law_deed_by, [], []⟩
def d_law_did : He.DefD := ⟨("_law_did", none), "_law_did", "_law_did", defArgs s_law_did, defBody s_law_did, defScope s_law_did, [], []⟩
def d_law_whole : He.DefD := ⟨("_law_whole", none), "_law_whole", "_law_whole", defArgs s_law_whole, defBody s_law_whole, defScope s_law_whole, [], []⟩
def d_law_rows : He.DefD := ⟨("_law_rows", none), "_law_rows", "_law_rows", defArgs s_law_rows, defBody s_law_rows, defScope s_law_rows, [], []⟩
def d_law_set_right : He.DefD := ⟨("_law_set_right", none), "_law_set_right", "_law_set_right", defArgs s_law_set_right, defBody s_law_set_right, defScope s_law_set_right, [], []⟩
def d_law_lines_right : He.DefD := ⟨("_law_lines_right", none), "_law_lines_right", "_law_lines_right", defArgs s_law_lines_right, defBody s_law_lines_right, defScope s_law_lines_right, [], []⟩
def d_law_first : He.DefD := ⟨("_law_first", none), "_law_first", "_law_first", defArgs s_law_first, defBody s_law_first, defScope s_law_first, [], []⟩
def d_law : He.DefD := ⟨("law", none), "law", "law", defArgs s_law, defBody s_law, defScope s_law, [], []⟩
def fns : List He.DefD := [dSlow_init, dSlow_four, dSlow_put_four, dSlow_need_line, dSlow_whole, dSlow_size, dLine_init, dLine_shown, dNear_init, dNear_need_address, dNear_room_of, dNear_line_of, dNear_write_back, dNear_come_to, dNear_get, dNear_put, dNear_cost, dNear_look, dNear_settle, dNear_held, d_law_cell, d_law_word, d_law_words, d_law_address, d_law_deed_by, d_law_did, d_law_whole, d_law_rows, d_law_set_right, d_law_lines_right, d_law_first, d_law]
def fas : List He.Fa := [.glo "Slow", .glo "Line", .glo "Near", .glo "_law_cell", .glo "_law_word", .glo "_law_words", .glo "_law_address", .glo "_law_deed_by", .glo "_law_did", .glo "_law_whole", .glo "_law_rows", .glo "_law_set_right", .glo "_law_lines_right", .glo "_law_first", .glo "law", .free "list", .free "tuple", .free "isinstance", .free "int", .free "bool", .free "len", .free "range", .free "sorted", .free "set", .free "all", .free "min", .int "IN_LINE" 4, .int "ROOM" 2, .int "NEAR_COST" 1, .int "COME_COST" 5, .int "CHANGED_COST" 9, .cls "Slow", .cls "Line", .cls "Near", .noat "Slow" "cells", .noat "Slow" "told_lines", .noat "Slow" "put_lines", .noat "Line" "number", .noat "Line" "fours", .noat "Line" "changed", .noat "Near" "slow", .noat "Near" "rooms", .meth "Slow" "four", .meth "Slow" "put_four", .meth "Slow" "need_line", .meth "Slow" "whole", .meth "Slow" "size", .meth "Line" "shown", .meth "Near" "need_address", .meth "Near" "room_of", .meth "Near" "line_of", .meth "Near" "write_back", .meth "Near" "come_to", .meth "Near" "get", .meth "Near" "put", .meth "Near" "cost", .meth "Near" "look", .meth "Near" "settle", .meth "Near" "held", .mkr "Slow", .mkr "Line", .mkr "Near"]
structure Tx (K : PySem.W.Frag) (mg : Str → Option Value) : Prop where
  says : He.SaysD fas fns K
  nsx : ∃ h : Heap, K.In h ∧ h.Ns mainGlobals mg
section
variable {K : PySem.W.Frag} {mg : Str → Option Value}
theorem Tx.gSlow (T : Tx K mg) : mg "Slow" = some (.ref (He.ga K "Slow")) := by
  obtain ⟨h, X, G⟩ := T.nsx
  exact He.glo_ok X G (T.says.fact 0 (f := .glo "Slow") rfl)
theorem Tx.gLine (T : Tx K mg) : mg "Line" = some (.ref (He.ga K "Line")) := by
  obtain ⟨h, X, G⟩ := T.nsx
  exact He.glo_ok X G (T.says.fact 1 (f := .glo "Line") rfl)
theorem Tx.gNear (T : Tx K mg) : mg "Near" = some (.ref (He.ga K "Near")) := by
  obtain ⟨h, X, G⟩ := T.nsx
  exact He.glo_ok X G (T.says.fact 2 (f := .glo "Near") rfl)
theorem Tx.glaw_cell (T : Tx K mg) : mg "_law_cell" = some (.ref (He.ga K "_law_cell")) := by
  obtain ⟨h, X, G⟩ := T.nsx
  exact He.glo_ok X G (T.says.fact 3 (f := .glo "_law_cell") rfl)
theorem Tx.glaw_word (T : Tx K mg) : mg "_law_word" = some (.ref (He.ga K "_law_word")) := by
  obtain ⟨h, X, G⟩ := T.nsx
  exact He.glo_ok X G (T.says.fact 4 (f := .glo "_law_word") rfl)
theorem Tx.glaw_words (T : Tx K mg) : mg "_law_words" = some (.ref (He.ga K "_law_words")) := by
  obtain ⟨h, X, G⟩ := T.nsx
  exact He.glo_ok X G (T.says.fact 5 (f := .glo "_law_words") rfl)
theorem Tx.glaw_address (T : Tx K mg) : mg "_law_address" = some (.ref (He.ga K "_law_address")) := by
  obtain ⟨h, X, G⟩ := T.nsx
  exact He.glo_ok X G (T.says.fact 6 (f := .glo "_law_address") rfl)
theorem Tx.glaw_deed_by (T : Tx K mg) : mg "_law_deed_by" = some (.ref (He.ga K "_law_deed_by")) := by
  obtain ⟨h, X, G⟩ := T.nsx
  exact He.glo_ok X G (T.says.fact 7 (f := .glo "_law_deed_by") rfl)
theorem Tx.glaw_did (T : Tx K mg) : mg "_law_did" = some (.ref (He.ga K "_law_did")) := by
  obtain ⟨h, X, G⟩ := T.nsx
  exact He.glo_ok X G (T.says.fact 8 (f := .glo "_law_did") rfl)
theorem Tx.glaw_whole (T : Tx K mg) : mg "_law_whole" = some (.ref (He.ga K "_law_whole")) := by
  obtain ⟨h, X, G⟩ := T.nsx
  exact He.glo_ok X G (T.says.fact 9 (f := .glo "_law_whole") rfl)
theorem Tx.glaw_rows (T : Tx K mg) : mg "_law_rows" = some (.ref (He.ga K "_law_rows")) := by
  obtain ⟨h, X, G⟩ := T.nsx
  exact He.glo_ok X G (T.says.fact 10 (f := .glo "_law_rows") rfl)
theorem Tx.glaw_set_right (T : Tx K mg) : mg "_law_set_right" = some (.ref (He.ga K "_law_set_right")) := by
  obtain ⟨h, X, G⟩ := T.nsx
  exact He.glo_ok X G (T.says.fact 11 (f := .glo "_law_set_right") rfl)
theorem Tx.glaw_lines_right (T : Tx K mg) : mg "_law_lines_right" = some (.ref (He.ga K "_law_lines_right")) := by
  obtain ⟨h, X, G⟩ := T.nsx
  exact He.glo_ok X G (T.says.fact 12 (f := .glo "_law_lines_right") rfl)
theorem Tx.glaw_first (T : Tx K mg) : mg "_law_first" = some (.ref (He.ga K "_law_first")) := by
  obtain ⟨h, X, G⟩ := T.nsx
  exact He.glo_ok X G (T.says.fact 13 (f := .glo "_law_first") rfl)
theorem Tx.glaw (T : Tx K mg) : mg "law" = some (.ref (He.ga K "law")) := by
  obtain ⟨h, X, G⟩ := T.nsx
  exact He.glo_ok X G (T.says.fact 14 (f := .glo "law") rfl)
theorem Tx.flist (T : Tx K mg) : mg "list" = none := by
  obtain ⟨h, X, G⟩ := T.nsx
  exact He.free_ok X G (T.says.fact 15 (f := .free "list") rfl)
theorem Tx.ftuple (T : Tx K mg) : mg "tuple" = none := by
  obtain ⟨h, X, G⟩ := T.nsx
  exact He.free_ok X G (T.says.fact 16 (f := .free "tuple") rfl)
theorem Tx.fisinstance (T : Tx K mg) : mg "isinstance" = none := by
  obtain ⟨h, X, G⟩ := T.nsx
  exact He.free_ok X G (T.says.fact 17 (f := .free "isinstance") rfl)
theorem Tx.fint (T : Tx K mg) : mg "int" = none := by
  obtain ⟨h, X, G⟩ := T.nsx
  exact He.free_ok X G (T.says.fact 18 (f := .free "int") rfl)
theorem Tx.fbool (T : Tx K mg) : mg "bool" = none := by
  obtain ⟨h, X, G⟩ := T.nsx
  exact He.free_ok X G (T.says.fact 19 (f := .free "bool") rfl)
theorem Tx.flen (T : Tx K mg) : mg "len" = none := by
  obtain ⟨h, X, G⟩ := T.nsx
  exact He.free_ok X G (T.says.fact 20 (f := .free "len") rfl)
theorem Tx.frange (T : Tx K mg) : mg "range" = none := by
  obtain ⟨h, X, G⟩ := T.nsx
  exact He.free_ok X G (T.says.fact 21 (f := .free "range") rfl)
theorem Tx.fsorted (T : Tx K mg) : mg "sorted" = none := by
  obtain ⟨h, X, G⟩ := T.nsx
  exact He.free_ok X G (T.says.fact 22 (f := .free "sorted") rfl)
theorem Tx.fset (T : Tx K mg) : mg "set" = none := by
  obtain ⟨h, X, G⟩ := T.nsx
  exact He.free_ok X G (T.says.fact 23 (f := .free "set") rfl)
theorem Tx.fall (T : Tx K mg) : mg "all" = none := by
  obtain ⟨h, X, G⟩ := T.nsx
  exact He.free_ok X G (T.says.fact 24 (f := .free "all") rfl)
theorem Tx.fmin (T : Tx K mg) : mg "min" = none := by
  obtain ⟨h, X, G⟩ := T.nsx
  exact He.free_ok X G (T.says.fact 25 (f := .free "min") rfl)
theorem Tx.iIN_LINE (T : Tx K mg) : ∃ t, mg "IN_LINE" = some (.int 4 t) := by
  obtain ⟨h, X, G⟩ := T.nsx
  exact He.int_ok X G (T.says.fact 26 (f := .int "IN_LINE" 4) rfl)
theorem Tx.iROOM (T : Tx K mg) : ∃ t, mg "ROOM" = some (.int 2 t) := by
  obtain ⟨h, X, G⟩ := T.nsx
  exact He.int_ok X G (T.says.fact 27 (f := .int "ROOM" 2) rfl)
theorem Tx.iNEAR_COST (T : Tx K mg) : ∃ t, mg "NEAR_COST" = some (.int 1 t) := by
  obtain ⟨h, X, G⟩ := T.nsx
  exact He.int_ok X G (T.says.fact 28 (f := .int "NEAR_COST" 1) rfl)
theorem Tx.iCOME_COST (T : Tx K mg) : ∃ t, mg "COME_COST" = some (.int 5 t) := by
  obtain ⟨h, X, G⟩ := T.nsx
  exact He.int_ok X G (T.says.fact 29 (f := .int "COME_COST" 5) rfl)
theorem Tx.iCHANGED_COST (T : Tx K mg) : ∃ t, mg "CHANGED_COST" = some (.int 9 t) := by
  obtain ⟨h, X, G⟩ := T.nsx
  exact He.int_ok X G (T.says.fact 30 (f := .int "CHANGED_COST" 9) rfl)
theorem Tx.cSlow (T : Tx K mg) : Cls K (He.ga K "Slow") := He.cls_ok (T.says.fact 31 (f := .cls "Slow") rfl)
theorem Tx.cLine (T : Tx K mg) : Cls K (He.ga K "Line") := He.cls_ok (T.says.fact 32 (f := .cls "Line") rfl)
theorem Tx.cNear (T : Tx K mg) : Cls K (He.ga K "Near") := He.cls_ok (T.says.fact 33 (f := .cls "Near") rfl)
theorem Tx.nSlow_cells (T : Tx K mg) : NoAttr K (He.ga K "Slow") "cells" := He.noat_ok (T.says.fact 34 (f := .noat "Slow" "cells") rfl)
theorem Tx.nSlow_told_lines (T : Tx K mg) : NoAttr K (He.ga K "Slow") "told_lines" := He.noat_ok (T.says.fact 35 (f := .noat "Slow" "told_lines") rfl)
theorem Tx.nSlow_put_lines (T : Tx K mg) : NoAttr K (He.ga K "Slow") "put_lines" := He.noat_ok (T.says.fact 36 (f := .noat "Slow" "put_lines") rfl)
theorem Tx.nLine_number (T : Tx K mg) : NoAttr K (He.ga K "Line") "number" := He.noat_ok (T.says.fact 37 (f := .noat "Line" "number") rfl)
theorem Tx.nLine_fours (T : Tx K mg) : NoAttr K (He.ga K "Line") "fours" := He.noat_ok (T.says.fact 38 (f := .noat "Line" "fours") rfl)
theorem Tx.nLine_changed (T : Tx K mg) : NoAttr K (He.ga K "Line") "changed" := He.noat_ok (T.says.fact 39 (f := .noat "Line" "changed") rfl)
theorem Tx.nNear_slow (T : Tx K mg) : NoAttr K (He.ga K "Near") "slow" := He.noat_ok (T.says.fact 40 (f := .noat "Near" "slow") rfl)
theorem Tx.nNear_rooms (T : Tx K mg) : NoAttr K (He.ga K "Near") "rooms" := He.noat_ok (T.says.fact 41 (f := .noat "Near" "rooms") rfl)
theorem Tx.mSlow_four (T : Tx K mg) : Meth K (He.ga K "Slow") "four" (He.ma K (He.ga K "Slow") "four") := He.meth_ok (T.says.fact 42 (f := .meth "Slow" "four") rfl)
theorem Tx.mSlow_put_four (T : Tx K mg) : Meth K (He.ga K "Slow") "put_four" (He.ma K (He.ga K "Slow") "put_four") := He.meth_ok (T.says.fact 43 (f := .meth "Slow" "put_four") rfl)
theorem Tx.mSlow_need_line (T : Tx K mg) : Meth K (He.ga K "Slow") "need_line" (He.ma K (He.ga K "Slow") "need_line") := He.meth_ok (T.says.fact 44 (f := .meth "Slow" "need_line") rfl)
theorem Tx.mSlow_whole (T : Tx K mg) : Meth K (He.ga K "Slow") "whole" (He.ma K (He.ga K "Slow") "whole") := He.meth_ok (T.says.fact 45 (f := .meth "Slow" "whole") rfl)
theorem Tx.mSlow_size (T : Tx K mg) : Meth K (He.ga K "Slow") "size" (He.ma K (He.ga K "Slow") "size") := He.meth_ok (T.says.fact 46 (f := .meth "Slow" "size") rfl)
theorem Tx.mLine_shown (T : Tx K mg) : Meth K (He.ga K "Line") "shown" (He.ma K (He.ga K "Line") "shown") := He.meth_ok (T.says.fact 47 (f := .meth "Line" "shown") rfl)
theorem Tx.mNear_need_address (T : Tx K mg) : Meth K (He.ga K "Near") "need_address" (He.ma K (He.ga K "Near") "need_address") := He.meth_ok (T.says.fact 48 (f := .meth "Near" "need_address") rfl)
theorem Tx.mNear_room_of (T : Tx K mg) : Meth K (He.ga K "Near") "room_of" (He.ma K (He.ga K "Near") "room_of") := He.meth_ok (T.says.fact 49 (f := .meth "Near" "room_of") rfl)
theorem Tx.mNear_line_of (T : Tx K mg) : Meth K (He.ga K "Near") "line_of" (He.ma K (He.ga K "Near") "line_of") := He.meth_ok (T.says.fact 50 (f := .meth "Near" "line_of") rfl)
theorem Tx.mNear_write_back (T : Tx K mg) : Meth K (He.ga K "Near") "write_back" (He.ma K (He.ga K "Near") "write_back") := He.meth_ok (T.says.fact 51 (f := .meth "Near" "write_back") rfl)
theorem Tx.mNear_come_to (T : Tx K mg) : Meth K (He.ga K "Near") "come_to" (He.ma K (He.ga K "Near") "come_to") := He.meth_ok (T.says.fact 52 (f := .meth "Near" "come_to") rfl)
theorem Tx.mNear_get (T : Tx K mg) : Meth K (He.ga K "Near") "get" (He.ma K (He.ga K "Near") "get") := He.meth_ok (T.says.fact 53 (f := .meth "Near" "get") rfl)
theorem Tx.mNear_put (T : Tx K mg) : Meth K (He.ga K "Near") "put" (He.ma K (He.ga K "Near") "put") := He.meth_ok (T.says.fact 54 (f := .meth "Near" "put") rfl)
theorem Tx.mNear_cost (T : Tx K mg) : Meth K (He.ga K "Near") "cost" (He.ma K (He.ga K "Near") "cost") := He.meth_ok (T.says.fact 55 (f := .meth "Near" "cost") rfl)
theorem Tx.mNear_look (T : Tx K mg) : Meth K (He.ga K "Near") "look" (He.ma K (He.ga K "Near") "look") := He.meth_ok (T.says.fact 56 (f := .meth "Near" "look") rfl)
theorem Tx.mNear_settle (T : Tx K mg) : Meth K (He.ga K "Near") "settle" (He.ma K (He.ga K "Near") "settle") := He.meth_ok (T.says.fact 57 (f := .meth "Near" "settle") rfl)
theorem Tx.mNear_held (T : Tx K mg) : Meth K (He.ga K "Near") "held" (He.ma K (He.ga K "Near") "held") := He.meth_ok (T.says.fact 58 (f := .meth "Near" "held") rfl)
theorem Tx.kSlow (T : Tx K mg) : Mk K (He.ga K "Slow") (He.ma K (He.ga K "Slow") "__init__") := He.mkr_ok (T.says.fact 59 (f := .mkr "Slow") rfl)
theorem Tx.kLine (T : Tx K mg) : Mk K (He.ga K "Line") (He.ma K (He.ga K "Line") "__init__") := He.mkr_ok (T.says.fact 60 (f := .mkr "Line") rfl)
theorem Tx.kNear (T : Tx K mg) : Mk K (He.ga K "Near") (He.ma K (He.ga K "Near") "__init__") := He.mkr_ok (T.says.fact 61 (f := .mkr "Near") rfl)
theorem Tx.DSlow_init (T : Tx K mg) : ∃ fd, FunD K "__init__" "Slow.__init__" (defArgs sSlow_init) (defBody sSlow_init) (defScope sSlow_init) [] [] (He.ma K (He.ga K "Slow") "__init__") fd := T.says.def_ 0 (d := dSlow_init) rfl
theorem Tx.DSlow_four (T : Tx K mg) : ∃ fd, FunD K "four" "Slow.four" (defArgs sSlow_four) (defBody sSlow_four) (defScope sSlow_four) [] [] (He.ma K (He.ga K "Slow") "four") fd := T.says.def_ 1 (d := dSlow_four) rfl
theorem Tx.DSlow_put_four (T : Tx K mg) : ∃ fd, FunD K "put_four" "Slow.put_four" (defArgs sSlow_put_four) (defBody sSlow_put_four) (defScope sSlow_put_four) [] [] (He.ma K (He.ga K "Slow") "put_four") fd := T.says.def_ 2 (d := dSlow_put_four) rfl
theorem Tx.DSlow_need_line (T : Tx K mg) : ∃ fd, FunD K "need_line" "Slow.need_line" (defArgs sSlow_need_line) (defBody sSlow_need_line) (defScope sSlow_need_line) [] [] (He.ma K (He.ga K "Slow") "need_line") fd := T.says.def_ 3 (d := dSlow_need_line) rfl
theorem Tx.DSlow_whole (T : Tx K mg) : ∃ fd, FunD K "whole" "Slow.whole" (defArgs sSlow_whole) (defBody sSlow_whole) (defScope sSlow_whole) [] [] (He.ma K (He.ga K "Slow") "whole") fd := T.says.def_ 4 (d := dSlow_whole) rfl
theorem Tx.DSlow_size (T : Tx K mg) : ∃ fd, FunD K "size" "Slow.size" (defArgs sSlow_size) (defBody sSlow_size) (defScope sSlow_size) [] [] (He.ma K (He.ga K "Slow") "size") fd := T.says.def_ 5 (d := dSlow_size) rfl
theorem Tx.DLine_init (T : Tx K mg) : ∃ fd, FunD K "__init__" "Line.__init__" (defArgs sLine_init) (defBody sLine_init) (defScope sLine_init) [] [] (He.ma K (He.ga K "Line") "__init__") fd := T.says.def_ 6 (d := dLine_init) rfl
theorem Tx.DLine_shown (T : Tx K mg) : ∃ fd, FunD K "shown" "Line.shown" (defArgs sLine_shown) (defBody sLine_shown) (defScope sLine_shown) [] [] (He.ma K (He.ga K "Line") "shown") fd := T.says.def_ 7 (d := dLine_shown) rfl
theorem Tx.DNear_init (T : Tx K mg) : ∃ fd, FunD K "__init__" "Near.__init__" (defArgs sNear_init) (defBody sNear_init) (defScope sNear_init) [V.int 2] [] (He.ma K (He.ga K "Near") "__init__") fd := T.says.def_ 8 (d := dNear_init) rfl
theorem Tx.DNear_need_address (T : Tx K mg) : ∃ fd, FunD K "need_address" "Near.need_address" (defArgs sNear_need_address) (defBody sNear_need_address) (defScope sNear_need_address) [] [] (He.ma K (He.ga K "Near") "need_address") fd := T.says.def_ 9 (d := dNear_need_address) rfl
theorem Tx.DNear_room_of (T : Tx K mg) : ∃ fd, FunD K "room_of" "Near.room_of" (defArgs sNear_room_of) (defBody sNear_room_of) (defScope sNear_room_of) [] [] (He.ma K (He.ga K "Near") "room_of") fd := T.says.def_ 10 (d := dNear_room_of) rfl
theorem Tx.DNear_line_of (T : Tx K mg) : ∃ fd, FunD K "line_of" "Near.line_of" (defArgs sNear_line_of) (defBody sNear_line_of) (defScope sNear_line_of) [] [] (He.ma K (He.ga K "Near") "line_of") fd := T.says.def_ 11 (d := dNear_line_of) rfl
theorem Tx.DNear_write_back (T : Tx K mg) : ∃ fd, FunD K "write_back" "Near.write_back" (defArgs sNear_write_back) (defBody sNear_write_back) (defScope sNear_write_back) [] [] (He.ma K (He.ga K "Near") "write_back") fd := T.says.def_ 12 (d := dNear_write_back) rfl
theorem Tx.DNear_come_to (T : Tx K mg) : ∃ fd, FunD K "come_to" "Near.come_to" (defArgs sNear_come_to) (defBody sNear_come_to) (defScope sNear_come_to) [] [] (He.ma K (He.ga K "Near") "come_to") fd := T.says.def_ 13 (d := dNear_come_to) rfl
theorem Tx.DNear_get (T : Tx K mg) : ∃ fd, FunD K "get" "Near.get" (defArgs sNear_get) (defBody sNear_get) (defScope sNear_get) [] [] (He.ma K (He.ga K "Near") "get") fd := T.says.def_ 14 (d := dNear_get) rfl
theorem Tx.DNear_put (T : Tx K mg) : ∃ fd, FunD K "put" "Near.put" (defArgs sNear_put) (defBody sNear_put) (defScope sNear_put) [] [] (He.ma K (He.ga K "Near") "put") fd := T.says.def_ 15 (d := dNear_put) rfl
theorem Tx.DNear_cost (T : Tx K mg) : ∃ fd, FunD K "cost" "Near.cost" (defArgs sNear_cost) (defBody sNear_cost) (defScope sNear_cost) [] [] (He.ma K (He.ga K "Near") "cost") fd := T.says.def_ 16 (d := dNear_cost) rfl
theorem Tx.DNear_look (T : Tx K mg) : ∃ fd, FunD K "look" "Near.look" (defArgs sNear_look) (defBody sNear_look) (defScope sNear_look) [] [] (He.ma K (He.ga K "Near") "look") fd := T.says.def_ 17 (d := dNear_look) rfl
theorem Tx.DNear_settle (T : Tx K mg) : ∃ fd, FunD K "settle" "Near.settle" (defArgs sNear_settle) (defBody sNear_settle) (defScope sNear_settle) [] [] (He.ma K (He.ga K "Near") "settle") fd := T.says.def_ 18 (d := dNear_settle) rfl
theorem Tx.DNear_held (T : Tx K mg) : ∃ fd, FunD K "held" "Near.held" (defArgs sNear_held) (defBody sNear_held) (defScope sNear_held) [] [] (He.ma K (He.ga K "Near") "held") fd := T.says.def_ 19 (d := dNear_held) rfl
theorem Tx.D_law_cell (T : Tx K mg) : ∃ fd, FunD K "_law_cell" "_law_cell" (defArgs s_law_cell) (defBody s_law_cell) (defScope s_law_cell) [] [] (He.ga K "_law_cell") fd := T.says.def_ 20 (d := d_law_cell) rfl
theorem Tx.D_law_word (T : Tx K mg) : ∃ fd, FunD K "_law_word" "_law_word" (defArgs s_law_word) (defBody s_law_word) (defScope s_law_word) [] [] (He.ga K "_law_word") fd := T.says.def_ 21 (d := d_law_word) rfl
theorem Tx.D_law_words (T : Tx K mg) : ∃ fd, FunD K "_law_words" "_law_words" (defArgs s_law_words) (defBody s_law_words) (defScope s_law_words) [] [] (He.ga K "_law_words") fd := T.says.def_ 22 (d := d_law_words) rfl
theorem Tx.D_law_address (T : Tx K mg) : ∃ fd, FunD K "_law_address" "_law_address" (defArgs s_law_address) (defBody s_law_address) (defScope s_law_address) [] [] (He.ga K "_law_address") fd := T.says.def_ 23 (d := d_law_address) rfl
theorem Tx.D_law_deed_by (T : Tx K mg) : ∃ fd, FunD K "_law_deed_by" "_law_deed_by" (defArgs s_law_deed_by) (defBody s_law_deed_by) (defScope s_law_deed_by) [] [] (He.ga K "_law_deed_by") fd := T.says.def_ 24 (d := d_law_deed_by) rfl
theorem Tx.D_law_did (T : Tx K mg) : ∃ fd, FunD K "_law_did" "_law_did" (defArgs s_law_did) (defBody s_law_did) (defScope s_law_did) [] [] (He.ga K "_law_did") fd := T.says.def_ 25 (d := d_law_did) rfl
theorem Tx.D_law_whole (T : Tx K mg) : ∃ fd, FunD K "_law_whole" "_law_whole" (defArgs s_law_whole) (defBody s_law_whole) (defScope s_law_whole) [] [] (He.ga K "_law_whole") fd := T.says.def_ 26 (d := d_law_whole) rfl
theorem Tx.D_law_rows (T : Tx K mg) : ∃ fd, FunD K "_law_rows" "_law_rows" (defArgs s_law_rows) (defBody s_law_rows) (defScope s_law_rows) [] [] (He.ga K "_law_rows") fd := T.says.def_ 27 (d := d_law_rows) rfl
theorem Tx.D_law_set_right (T : Tx K mg) : ∃ fd, FunD K "_law_set_right" "_law_set_right" (defArgs s_law_set_right) (defBody s_law_set_right) (defScope s_law_set_right) [] [] (He.ga K "_law_set_right") fd := T.says.def_ 28 (d := d_law_set_right) rfl
theorem Tx.D_law_lines_right (T : Tx K mg) : ∃ fd, FunD K "_law_lines_right" "_law_lines_right" (defArgs s_law_lines_right) (defBody s_law_lines_right) (defScope s_law_lines_right) [] [] (He.ga K "_law_lines_right") fd := T.says.def_ 29 (d := d_law_lines_right) rfl
theorem Tx.D_law_first (T : Tx K mg) : ∃ fd, FunD K "_law_first" "_law_first" (defArgs s_law_first) (defBody s_law_first) (defScope s_law_first) [] [] (He.ga K "_law_first") fd := T.says.def_ 30 (d := d_law_first) rfl
theorem Tx.D_law (T : Tx K mg) : ∃ fd, FunD K "law" "law" (defArgs s_law) (defBody s_law) (defScope s_law) [] [] (He.ga K "law") fd := T.says.def_ 31 (d := d_law) rfl
end
end RM

namespace RM
open PySem PySem.Spec PyProof.Rows L2
/-! ### fields -/
theorem put_hit (f : Str) (v x : V) (r : List (Str × V)) : putF f v ((f, x) :: r) = (f, v) :: r := if_pos rfl
theorem put_miss {f g : Str} (h : ¬ g = f) (v x : V) (r : List (Str × V)) : putF f v ((g, x) :: r) = (g, x) :: putF f v r := if_neg h
theorem look_hit (f : Str) (v : V) (r : List (Str × V)) : List.lookup f ((f, v) :: r) = some v := by simp
theorem look_miss {f g : Str} (h : ¬ f = g) (v : V) (r : List (Str × V)) : List.lookup f ((g, v) :: r) = List.lookup f r := by
  rw [List.lookup_cons, beq_eq_false_iff_ne.mpr h]
def sf (c : Addr) (r w : Int) : List (Str × V) := [("cells", .ref c), ("told_lines", .int r), ("put_lines", .int w)]
def lf (n : Int) (q : Addr) (ch : Bool) : List (Str × V) := [("number", .int n), ("fours", .ref q), ("changed", .bl ch)]
def nf (s rl : Addr) : List (Str × V) := [("slow", .ref s), ("rooms", .ref rl)]
theorem sf_cells (c : Addr) (r w : Int) : (sf c r w).lookup ("cells" : Str) = some (.ref c) := look_hit _ _ _
theorem sf_told (c : Addr) (r w : Int) : (sf c r w).lookup ("told_lines" : Str) = some (.int r) := by
  unfold sf
  rw [look_miss (by decide +kernel), look_hit]
theorem sf_puts (c : Addr) (r w : Int) : (sf c r w).lookup ("put_lines" : Str) = some (.int w) := by
  unfold sf
  rw [look_miss (by decide +kernel), look_miss (by decide +kernel), look_hit]
theorem sf_no {m : Str} (c : Addr) (r w : Int) (h1 : ¬ m = "cells") (h2 : ¬ m = "told_lines") (h3 : ¬ m = "put_lines") : (sf c r w).lookup m = none := by
  unfold sf
  rw [look_miss h1, look_miss h2, look_miss h3]
  rfl
theorem sf_mk (c : Addr) (r w : Int) : putF "put_lines" (.int w) (putF "told_lines" (.int r) (putF "cells" (.ref c) [])) = sf c r w := by
  show putF "put_lines" (.int w) (putF "told_lines" (.int r) [("cells", .ref c)]) = _
  rw [put_miss (by decide +kernel)]
  show putF "put_lines" (.int w) [("cells", .ref c), ("told_lines", .int r)] = _
  rw [put_miss (by decide +kernel), put_miss (by decide +kernel)]
  rfl
theorem sf_put_told (c : Addr) (r w y : Int) : putF "told_lines" (.int y) (sf c r w) = sf c y w := by
  unfold sf
  rw [put_miss (by decide +kernel), put_hit]
theorem sf_put_puts (c : Addr) (r w y : Int) : putF "put_lines" (.int y) (sf c r w) = sf c r y := by
  unfold sf
  rw [put_miss (by decide +kernel), put_miss (by decide +kernel), put_hit]
theorem sf_put_cells (c d : Addr) (r w : Int) : putF "cells" (.ref d) (sf c r w) = sf d r w := by
  unfold sf
  rw [put_hit]
theorem lf_num (n : Int) (q : Addr) (ch : Bool) : (lf n q ch).lookup ("number" : Str) = some (.int n) := look_hit _ _ _
theorem lf_fours (n : Int) (q : Addr) (ch : Bool) : (lf n q ch).lookup ("fours" : Str) = some (.ref q) := by
  unfold lf
  rw [look_miss (by decide +kernel), look_hit]
theorem lf_ch (n : Int) (q : Addr) (ch : Bool) : (lf n q ch).lookup ("changed" : Str) = some (.bl ch) := by
  unfold lf
  rw [look_miss (by decide +kernel), look_miss (by decide +kernel), look_hit]
theorem lf_no {m : Str} (n : Int) (q : Addr) (ch : Bool) (h1 : ¬ m = "number") (h2 : ¬ m = "fours") (h3 : ¬ m = "changed") : (lf n q ch).lookup m = none := by
  unfold lf
  rw [look_miss h1, look_miss h2, look_miss h3]
  rfl
theorem lf_mk (n : Int) (q : Addr) (ch : Bool) : putF "changed" (.bl ch) (putF "fours" (.ref q) (putF "number" (.int n) [])) = lf n q ch := by
  show putF "changed" (.bl ch) (putF "fours" (.ref q) [("number", .int n)]) = _
  rw [put_miss (by decide +kernel)]
  show putF "changed" (.bl ch) [("number", .int n), ("fours", .ref q)] = _
  rw [put_miss (by decide +kernel), put_miss (by decide +kernel)]
  rfl
theorem lf_put_ch (n : Int) (q : Addr) (ch b : Bool) : putF "changed" (.bl b) (lf n q ch) = lf n q b := by
  unfold lf
  rw [put_miss (by decide +kernel), put_miss (by decide +kernel), put_hit]
theorem nf_slow (s rl : Addr) : (nf s rl).lookup ("slow" : Str) = some (.ref s) := look_hit _ _ _
theorem nf_rooms (s rl : Addr) : (nf s rl).lookup ("rooms" : Str) = some (.ref rl) := by
  unfold nf
  rw [look_miss (by decide +kernel), look_hit]
theorem nf_no {m : Str} (s rl : Addr) (h1 : ¬ m = "slow") (h2 : ¬ m = "rooms") : (nf s rl).lookup m = none := by
  unfold nf
  rw [look_miss h1, look_miss h2]
  rfl
theorem nf_mk (s rl : Addr) : putF "rooms" (.ref rl) (putF "slow" (.ref s) []) = nf s rl := by
  show putF "rooms" (.ref rl) [("slow", .ref s)] = _
  rw [put_miss (by decide +kernel)]
  rfl
/-! ### who owns what: a role for each address of a near memory t -/
inductive Kd where
  | near | slow | cells | rooms | room (j : Nat) | line (n : Nat) | fours (n : Nat)
abbrev Own := Addr → Option (Nat × Kd)
def ownF (ω : Own) (a : Addr) (r : Nat × Kd) : Own := fun b => if b = a then some r else ω b
theorem own_same {ω : Own} {a : Addr} {r : Nat × Kd} : ownF ω a r a = some r := by unfold ownF; rw [if_pos rfl]
theorem own_ne {ω : Own} {a b : Addr} {r : Nat × Kd} (h : b ≠ a) : ownF ω a r b = ω b := by unfold ownF; rw [if_neg h]
theorem ne_role {ω : Own} {a b : Addr} {r q : Nat × Kd} (h : ω a = some r) (h' : ω b = some q) (d : r ≠ q) : a ≠ b := by
  intro e
  subst e
  rw [h] at h'
  exact d (Option.some.inj h')
theorem kd_ne {t : Nat} {k q : Kd} (h : k ≠ q) : (t, k) ≠ (t, q) := fun e => h (Prod.mk.inj e).2
/-- nothing that isn't there is owned -/
def Wf (H : Hp) (ω : Own) : Prop := ∀ b, H b = none → ω b = none
/-- a deed of the near memory t: all that it doesn't own is as it was -/
structure Frm (t : Nat) (H H' : Hp) (ω ω' : Own) : Prop where
  keep : ∀ b o, H b = some o → (∀ k, ω b ≠ some (t, k)) → H' b = some o
  own : ∀ b o, H b = some o → ω' b = ω b
  there : ∀ b o, H b = some o → ∃ o', H' b = some o'
  wf : Wf H ω → Wf H' ω'
theorem Frm.refl (t : Nat) (H : Hp) (ω : Own) : Frm t H H ω ω := ⟨fun _ _ h _ => h, fun _ _ _ => rfl, fun _ o h => ⟨o, h⟩, fun w => w⟩
theorem Frm.trans {t : Nat} {H H1 H2 : Hp} {ω ω1 ω2 : Own} (a : Frm t H H1 ω ω1) (b : Frm t H1 H2 ω1 ω2) : Frm t H H2 ω ω2 := by
  refine ⟨fun c o h n => ?_, fun c o h => ?_, fun c o h => ?_, fun w => b.wf (a.wf w)⟩
  · refine b.keep c o (a.keep c o h n) fun k => ?_
    rw [a.own c o h]
    exact n k
  · obtain ⟨o', h'⟩ := a.there c o h
    rw [b.own c o' h', a.own c o h]
  · obtain ⟨o', h'⟩ := a.there c o h
    exact b.there c o' h'
/-- a thing of its own is written -/
theorem Frm.upd {t : Nat} {H : Hp} {ω : Own} {a : Addr} {k : Kd} (o : HO) (h : ω a = some (t, k)) : Frm t H (upd H a o) ω ω := by
  refine ⟨fun b u e n => ?_, fun _ _ _ => rfl, fun b u e => ?_, fun w b e => ?_⟩
  · rw [upd_ne fun z => n k (by rw [z]; exact h)]
    exact e
  · by_cases z : b = a
    · exact ⟨o, by rw [z]; exact upd_same⟩
    · exact ⟨u, by rw [upd_ne z]; exact e⟩
  · by_cases z : b = a
    · rw [z, upd_same] at e
      cases e
    · rw [upd_ne z] at e
      exact w b e
/-- a new thing of its own -/
theorem Frm.new {t : Nat} {H : Hp} {ω : Own} {a : Addr} (r : Nat × Kd) (o : HO) (h : H a = none) : Frm t H (L2.upd H a o) ω (ownF ω a r) := by
  refine ⟨fun b u e _ => ?_, fun b u e => own_ne (ne_of_none e h), fun b u e => ⟨u, by rw [upd_ne (ne_of_none e h)]; exact e⟩, fun w b e => ?_⟩
  · rw [upd_ne (ne_of_none e h)]
    exact e
  · by_cases z : b = a
    · rw [z, upd_same] at e
      cases e
    · rw [upd_ne z] at e
      rw [own_ne z]
      exact w b e
/-- new things of nobody -/
theorem Frm.same {t : Nat} {H H' : Hp} {ω : Own} (s : Same H H') : Frm t H H' ω ω :=
  ⟨fun b o h _ => s b o h, fun _ _ _ => rfl, fun b o h => ⟨o, s b o h⟩, fun w b e => w b (s.free e)⟩
/-- all but the thing a of its own is as it was -/
theorem Frm.but {t : Nat} {H H' : Hp} {ω : Own} {a : Addr} {k : Kd} (h : ω a = some (t, k)) (ha : ∃ o, H' a = some o) (f : ∀ b o, H b = some o → b ≠ a → H' b = some o) : Frm t H H' ω ω := by
  refine ⟨fun b o e n => f b o e fun z => n k (by rw [z]; exact h), fun _ _ _ => rfl, fun b o e => ?_, fun w b e => ?_⟩
  · by_cases z : b = a
    · rw [z]
      exact ha
    · exact ⟨o, f b o e z⟩
  · cases q : H b with
    | none => exact w b q
    | some o =>
      by_cases z : b = a
      · obtain ⟨o', h'⟩ := ha
        rw [z, h'] at e
        cases e
      · rw [f b o q z] at e
        cases e
/-- the roles alone: a new owner's mark on a thing that was laid since -/
theorem Frm.mark {t : Nat} {H H' : Hp} {ω ω' : Own} {a : Addr} (r : Nat × Kd) (F : Frm t H H' ω ω') (h : H a = none) (h' : ∃ o, H' a = some o) : Frm t H H' ω (ownF ω' a r) := by
  refine ⟨F.keep, fun b o e => ?_, F.there, fun w b e => ?_⟩
  · rw [own_ne (ne_of_none e h)]
    exact F.own b o e
  · obtain ⟨o', q⟩ := h'
    have z : b ≠ a := fun z => by
      rw [z, q] at e
      cases e
    rw [own_ne z]
    exact F.wf w b e

/-! ### a near memory on the heap -/
abbrev CS (K : PySem.W.Frag) : Addr := He.ga K "Slow"
abbrev CL (K : PySem.W.Frag) : Addr := He.ga K "Line"
abbrev CN (K : PySem.W.Frag) : Addr := He.ga K "Near"
/-- a line stands at a -/
structure LineAt (K : PySem.W.Frag) (H : Hp) (ω : Own) (t : Nat) (a : Addr) (l : Ln) : Prop where
  ow : ω a = some (t, .line l.num)
  ex : ∃ dx q, H a = some (.ins (CL K) dx (lf l.num q l.ch)) ∧ ω q = some (t, .fours l.num) ∧ H q = some (.lst (l.ws.map V.int))
/-- a set's lines stand in the list at r -/
structure RoomAt (K : PySem.W.Frag) (H : Hp) (ω : Own) (t : Nat) (r : Addr) (j : Nat) (ls : List Ln) (as : List Addr) : Prop where
  ow : ω r = some (t, .room j)
  at_ : H r = some (.lst (as.map V.ref))
  ls : Paired (LineAt K H ω t) as ls
/-- where its parts stand -/
structure Lay where
  dx : Addr
  rl : Addr
  dxs : Addr
  c : Addr
  rd : Int
  wr : Int
  rs : List Addr
structure NearL (K : PySem.W.Frag) (H : Hp) (ω : Own) (t : Nat) (p s : Addr) (m : Mm) (y : Lay) : Prop where
  pp : H p = some (.ins (CN K) y.dx (nf s y.rl))
  po : ω p = some (t, .near)
  ss : H s = some (.ins (CS K) y.dxs (sf y.c y.rd y.wr))
  so : ω s = some (t, .slow)
  cc : H y.c = some (.lst (m.cells.map V.int))
  co : ω y.c = some (t, .cells)
  rr : H y.rl = some (.lst (y.rs.map V.ref))
  ro : ω y.rl = some (t, .rooms)
  len : y.rs.length = m.rooms.length
  rm : ∀ (j : Nat) (r : Addr) (ls : List Ln), y.rs[j]? = some r → m.rooms[j]? = some ls → ∃ as, RoomAt K H ω t r j ls as
def NearAt (K : PySem.W.Frag) (H : Hp) (ω : Own) (t : Nat) (p s : Addr) (m : Mm) : Prop := ∃ y, NearL K H ω t p s m y
/-- what t owns by such roles is kept -/
def Kp (P : Kd → Prop) (t : Nat) (H H' : Hp) (ω ω' : Own) : Prop := ∀ (b : Addr) (k : Kd) (o : HO), P k → ω b = some (t, k) → H b = some o → H' b = some o ∧ ω' b = some (t, k)
abbrev All : Kd → Prop := fun _ => True
theorem Kp.trans {P : Kd → Prop} {t : Nat} {H H1 H2 : Hp} {ω ω1 ω2 : Own} (a : Kp P t H H1 ω ω1) (b : Kp P t H1 H2 ω1 ω2) : Kp P t H H2 ω ω2 := fun c k o hk h1 h2 =>
  let ⟨e1, e2⟩ := a c k o hk h1 h2
  b c k o hk e2 e1
theorem Kp.weak {P Q : Kd → Prop} {t : Nat} {H H1 : Hp} {ω ω1 : Own} (a : Kp P t H H1 ω ω1) (h : ∀ k, Q k → P k) : Kp Q t H H1 ω ω1 := fun c k o hk => a c k o (h k hk)
theorem Kp.same {P : Kd → Prop} {t : Nat} {H H' : Hp} {ω : Own} (s : Same H H') : Kp P t H H' ω ω := fun b k o _ h1 h2 => ⟨s b o h2, h1⟩
theorem Kp.upd {t : Nat} {H : Hp} {ω : Own} {a : Addr} {k : Kd} (o : HO) (h : ω a = some (t, k)) : Kp (fun q => q ≠ k) t H (upd H a o) ω ω := fun b q u hq h1 h2 =>
  ⟨by rw [upd_ne (ne_role h1 h (kd_ne hq))]; exact h2, h1⟩
theorem Kp.but {t : Nat} {H H' : Hp} {ω : Own} {a : Addr} {k : Kd} (h : ω a = some (t, k)) (f : ∀ b o, H b = some o → b ≠ a → H' b = some o) : Kp (fun q => q ≠ k) t H H' ω ω := fun b q u hq h1 h2 =>
  ⟨f b u h2 (ne_role h1 h (kd_ne hq)), h1⟩
theorem Kp.mark {P : Kd → Prop} {t : Nat} {H H' : Hp} {ω ω' : Own} {a : Addr} (r : Nat × Kd) (F : Kp P t H H' ω ω') (h : H a = none) : Kp P t H H' ω (ownF ω' a r) := fun b k o hk h1 h2 => by
  obtain ⟨e1, e2⟩ := F b k o hk h1 h2
  exact ⟨e1, by rw [own_ne (ne_of_none h2 h)]; exact e2⟩
theorem Kp.new {P : Kd → Prop} {t : Nat} {H : Hp} {ω : Own} {a : Addr} (r : Nat × Kd) (o : HO) (h : H a = none) : Kp P t H (L2.upd H a o) ω (ownF ω a r) := fun b k u _ h1 h2 =>
  ⟨by rw [upd_ne (ne_of_none h2 h)]; exact h2, by rw [own_ne (ne_of_none h2 h)]; exact h1⟩
theorem Frm.kp {t t' : Nat} {H H' : Hp} {ω ω' : Own} (F : Frm t H H' ω ω') (h : t' ≠ t) : Kp All t' H H' ω ω' := fun b k o _ h1 h2 =>
  ⟨F.keep b o h2 fun q e => h (Prod.mk.inj (Option.some.inj (h1.symm.trans e))).1, (F.own b o h2).trans h1⟩
section
variable {K : PySem.W.Frag} {H H' : Hp} {ω ω' : Own} {t : Nat} {P : Kd → Prop}
theorem LineAt.mono {a : Addr} {l : Ln} (x : LineAt K H ω t a l) (k : Kp P t H H' ω ω') (h1 : P (.line l.num)) (h2 : P (.fours l.num)) : LineAt K H' ω' t a l := by
  obtain ⟨ow, dx, q, e1, e2, e3⟩ := x
  obtain ⟨f1, f2⟩ := k a _ _ h1 ow e1
  obtain ⟨f3, f4⟩ := k q _ _ h2 e2 e3
  exact ⟨f2, dx, q, f1, f4, f3⟩
theorem Paired.mem2 {α β : Type} {F G : α → β → Prop} : ∀ {l₁ : List α} {l₂ : List β}, Paired F l₁ l₂ → (∀ a b, b ∈ l₂ → F a b → G a b) → Paired G l₁ l₂
  | _, _, .nil, _ => .nil
  | _, _, .cons r t, f => .cons (f _ _ List.mem_cons_self r) (Paired.mem2 t fun a b hb => f a b (List.mem_cons_of_mem _ hb))
theorem Paired.get {α β : Type} {F : α → β → Prop} : ∀ {l₁ : List α} {l₂ : List β} {i : Nat} {a : α} {b : β}, Paired F l₁ l₂ → l₁[i]? = some a → l₂[i]? = some b → F a b
  | _, _, _, _, _, .nil, e, _ => by simp at e
  | _, _, 0, _, _, .cons r _, e, e' => by
    simp at e e'
    subst e e'
    exact r
  | _, _, i + 1, _, _, .cons _ t, e, e' => Paired.get (i := i) t (by simpa using e) (by simpa using e')
theorem Paired.left {α β : Type} {F : α → β → Prop} {l₁ : List α} {l₂ : List β} {i : Nat} {a : α} (h : Paired F l₁ l₂) (e : l₁[i]? = some a) : ∃ b, l₂[i]? = some b := by
  have hl := Paired.length h
  have hi := (List.getElem?_eq_some_iff.mp e).1
  exact ⟨l₂[i], List.getElem?_eq_getElem (by omega)⟩
theorem Paired.right {α β : Type} {F : α → β → Prop} {l₁ : List α} {l₂ : List β} {i : Nat} {b : β} (h : Paired F l₁ l₂) (e : l₂[i]? = some b) : ∃ a, l₁[i]? = some a := by
  have hl := Paired.length h
  have hi := (List.getElem?_eq_some_iff.mp e).1
  exact ⟨l₁[i], List.getElem?_eq_getElem (by omega)⟩
theorem RoomAt.mono {r : Addr} {j : Nat} {ls : List Ln} {as : List Addr} (x : RoomAt K H ω t r j ls as) (k : Kp P t H H' ω ω') (hr : P (.room j)) (hl : ∀ l, l ∈ ls → P (.line l.num) ∧ P (.fours l.num)) : RoomAt K H' ω' t r j ls as := by
  obtain ⟨ow, e, pl⟩ := x
  obtain ⟨f1, f2⟩ := k r _ _ hr ow e
  exact ⟨f2, f1, Paired.mem2 pl fun a l hm z => z.mono k (hl l hm).1 (hl l hm).2⟩
theorem NearL.mono {p s : Addr} {m : Mm} {y : Lay} (x : NearL K H ω t p s m y) (k : Kp All t H H' ω ω') : NearL K H' ω' t p s m y := by
  obtain ⟨a1, a2, a3, a4, a5, a6, a7, a8, a9, a10⟩ := x
  obtain ⟨b1, b2⟩ := k p _ _ trivial a2 a1
  obtain ⟨b3, b4⟩ := k s _ _ trivial a4 a3
  obtain ⟨b5, b6⟩ := k y.c _ _ trivial a6 a5
  obtain ⟨b7, b8⟩ := k y.rl _ _ trivial a8 a7
  refine ⟨b1, b2, b3, b4, b5, b6, b7, b8, a9, fun j r ls h1 h2 => ?_⟩
  obtain ⟨as, z⟩ := a10 j r ls h1 h2
  exact ⟨as, z.mono k trivial fun _ _ => ⟨trivial, trivial⟩⟩
theorem NearAt.mono {p s : Addr} {m : Mm} (x : NearAt K H ω t p s m) (k : Kp All t H H' ω ω') : NearAt K H' ω' t p s m := let ⟨y, z⟩ := x; ⟨y, z.mono k⟩
theorem NearAt.same {p s : Addr} {m : Mm} (x : NearAt K H ω t p s m) (k : Same H H') : NearAt K H' ω t p s m := x.mono (Kp.same k)
end
/-- a def keeps its promise, whatever its function object -/
def Ok (P : Program) (w : World) (K : PySem.W.Frag) (mg : Str → Option Value) (base : Heap) (k : Nat) (f : Addr) (ps : List Str) (sp : Sp) : Prop :=
  ∃ fd, FnOk P w K mg base CX0 k f fd ps sp ∧ Binds K fd ps []
section
variable {P : Program} {w : World} {K : PySem.W.Frag} {mg : Str → Option Value} {base : Heap}
theorem ok_by {x qual : Str} {st : Stmt} {f : Addr} {N ps : List Str} {k : Nat} {sp : Sp} (F : ∃ fd, FunD K x qual (defArgs st) (defBody st) (defScope st) [] [] f fd) (S : FnScope N ps (defScope st))
    (len : ∀ vs H Q E, sp vs H Q E → vs.length = ps.length)
    (hb : ∀ (kV doc pm : Value) (an : Option Addr) (cdv ct : Value) (us : List Value), us.length = ps.length → bindArgs (PySem.W.fnOf x qual (defArgs st) (defBody st) (defScope st) .none kV doc pm an cdv ct) ⟨us, []⟩ = pure (ps.zip us))
    (walk : ∀ (f : Addr) (cdv : Value) (A : Around) (outer : List Env) (s : Shared) (H : Hp) (vs : List V) (Q : VK) (E : XK), Room k (A.deeper (envOfC qual (defScope st) s.heap.objs.size f cdv)) → sp vs H Q E →
      ∃ t, PSs (cxOf CX0 P w K mg base N qual (defScope st) f cdv A outer s H E).nox (defBody st) t ∧ t { nx := fun _ H' => Q .non H', rt := Q } (start N vs) H) : Ok P w K mg base (k + 1) f ps sp := by
  obtain ⟨fd, F⟩ := F
  refine ⟨fd, F.ok S len fun cdv A outer s H vs Q E hr h => ?_, F.bindsN hb⟩
  obtain ⟨t, h1, h2⟩ := walk f cdv A outer s H vs Q E hr h
  exact ⟨t, h1.nox, h2⟩
end
end RM

namespace RM
open PySem PySem.Spec PyProof.Rows L2
/-! ### built-ins -/
theorem bo_int : bootBuiltins "int" = some (.type "int") := by decide +kernel
theorem bo_bool : bootBuiltins "bool" = some (.type "bool") := by decide +kernel
theorem bo_list : bootBuiltins "list" = some (.type "list") := by decide +kernel
theorem bo_tuple : bootBuiltins "tuple" = some (.type "tuple") := by decide +kernel
theorem bo_len : bootBuiltins "len" = some (.builtin "len") := by decide +kernel
theorem bo_isi : bootBuiltins "isinstance" = some (.builtin "isinstance") := by decide +kernel
theorem bo_sorted : bootBuiltins "sorted" = some (.builtin "sorted") := by decide +kernel
theorem bo_all : bootBuiltins "all" = some (.builtin "all") := by decide +kernel
theorem bo_min : bootBuiltins "min" = some (.builtin "min") := by decide +kernel
theorem iteD {c A B : Prop} [Decidable c] (hc : c) (h : A) : if decide c = true then A else B := by
  rw [decide_eq_true hc]
  exact iteT h
theorem iteDF {c A B : Prop} [Decidable c] (hc : ¬ c) (h : B) : if decide c = true then A else B := by
  rw [decide_eq_false hc]
  exact iteF h
theorem iteNT {c A B : Prop} [Decidable c] (hc : ¬ c) (h : A) : if (!decide c) = true then A else B := by
  rw [decide_eq_false hc]
  exact iteT h
theorem two_len (f g : Str) (v u : V) : (putF f v (putF g u [])).length < 1000 := by
  have h1 := length_putF f v (putF g u [])
  have h2 := length_putF g u []
  have h3 : ([] : List (Str × V)).length = 0 := rfl
  omega
/-! ### slices -/
theorem cut_lo (cs : List Int) (z : Int) (k : Nat) (e : z = (k : Int)) : cutV (cs.map V.int) none (some z) = (cs.take k).map V.int := by
  unfold cutV
  rw [e, HT.sIx_none, HT.sIx_nat, List.length_map, List.drop_zero, Nat.sub_zero, List.map_take]
  by_cases h : k ≤ cs.length
  · rw [Nat.min_eq_left h]
  · rw [Nat.min_eq_right (by omega), List.take_of_length_le (by rw [List.length_map]; exact Nat.le_refl _), List.take_of_length_le (by rw [List.length_map]; omega)]
theorem cut_hi (cs : List Int) (z : Int) (k : Nat) (e : z = (k : Int)) : cutV (cs.map V.int) (some z) none = (cs.drop k).map V.int := by
  unfold cutV
  rw [e, HT.sIx_none, HT.sIx_nat, List.length_map, List.map_drop]
  by_cases h : k ≤ cs.length
  · rw [Nat.min_eq_left h, List.take_of_length_le (by rw [List.length_drop, List.length_map]; exact Nat.le_refl _)]
  · rw [Nat.min_eq_right (by omega), List.drop_of_length_le (by rw [List.length_map]; exact Nat.le_refl _), List.drop_of_length_le (l := cs.map V.int) (by rw [List.length_map]; omega), List.take_nil]
theorem cut_four (cs : List Int) (a b : Int) (n : Nat) (h : 4 * n + 4 ≤ cs.length) (ea : a = ((4 * n : Nat) : Int)) (eb : b = ((4 * n + 4 : Nat) : Int)) : cutV (cs.map V.int) (some a) (some b) = (four cs n).map V.int := by
  unfold cutV four
  rw [ea, eb, HT.sIx_nat, HT.sIx_nat, List.length_map, Nat.min_eq_left (by omega), Nat.min_eq_left (by omega), show 4 * n + 4 - 4 * n = 4 by omega, List.map_take, List.map_drop]
/-! ### the slow memory -/
def spSlowInit (K : PySem.W.Frag) : Sp := fun vs H Q _ => ∃ (p l dx : Addr) (xs : List V), vs = [.ref p, .ref l] ∧ H p = some (.ins (CS K) dx []) ∧ H l = some (.lst xs) ∧
  ∀ (c : Addr) (H' : Hp), H c = none → H' p = some (.ins (CS K) dx (sf c 0 0)) → H' c = some (.lst xs) → (∀ b o, H b = some o → b ≠ p → H' b = some o) → Q .non H'
def spWhole (K : PySem.W.Frag) : Sp := fun vs H Q _ => ∃ (s dx c : Addr) (r w : Int) (xs : List V), vs = [.ref s] ∧ H s = some (.ins (CS K) dx (sf c r w)) ∧ H c = some (.lst xs) ∧
  ∀ l, H l = none → Q (.ref l) (upd H l (.lst xs))
def spSize (K : PySem.W.Frag) : Sp := fun vs H Q _ => ∃ (s dx c : Addr) (r w : Int) (xs : List V), vs = [.ref s] ∧ H s = some (.ins (CS K) dx (sf c r w)) ∧ H c = some (.lst xs) ∧ Q (.int xs.length) H
def spNeedLine (K : PySem.W.Frag) : Sp := fun vs H Q _ => ∃ (s dx c : Addr) (r w : Int) (xs : List V) (n : Nat), vs = [.ref s, .int n] ∧ H s = some (.ins (CS K) dx (sf c r w)) ∧ H c = some (.lst xs) ∧ n * 4 < xs.length ∧ Q .non H
def spFour (K : PySem.W.Frag) : Sp := fun vs H Q _ => ∃ (s dx c : Addr) (r w : Int) (cs : List Int) (n : Nat), vs = [.ref s, .int n] ∧ H s = some (.ins (CS K) dx (sf c r w)) ∧ H c = some (.lst (cs.map V.int)) ∧ 4 * n + 4 ≤ cs.length ∧
  ∀ (q : Addr) (H' : Hp), H' q = some (.tup ((four cs n).map V.int)) → H' s = some (.ins (CS K) dx (sf c (r + 1) w)) → (∀ b o, H b = some o → b ≠ s → H' b = some o) → Q (.ref q) H'
def spPutFour (K : PySem.W.Frag) : Sp := fun vs H Q _ => ∃ (s dx c q : Addr) (r w : Int) (cs ws : List Int) (n : Nat), vs = [.ref s, .int n, .ref q] ∧ H s = some (.ins (CS K) dx (sf c r w)) ∧ H c = some (.lst (cs.map V.int)) ∧
  H q = some (.tup (ws.map V.int)) ∧ 4 * n + 4 ≤ cs.length ∧ cs.length ≤ 1000 ∧ ws.length ≤ 1000 ∧
  ∀ (c' : Addr) (H' : Hp), H c' = none → H' c' = some (.lst ((putFour cs n ws).map V.int)) → H' s = some (.ins (CS K) dx (sf c' r (w + 1))) → (∀ b o, H b = some o → b ≠ s → H' b = some o) → Q .non H'
section
variable {P : Program} {w : World} {K : PySem.W.Frag} {mg : Str → Option Value} {base : Heap}
theorem scSI : FnScope ["self", "words"] ["self", "words"] (defScope sSlow_init) := ⟨rfl, rfl, rfl, by decide +kernel, rfl, by decide +kernel, by decide +kernel⟩
theorem ok_SlowInit (T : Tx K mg) : Ok P w K mg base 1 (He.ma K (CS K) "__init__") ["self", "words"] (spSlowInit K) := by
  refine ok_by T.DSlow_init scSI (fun vs H Q E h => ?_) (fun _ _ _ _ _ _ us hl => match us, hl with | [_, _], _ => rfl) (fun f cdv A outer s H vs Q E hr h => ?_)
  · obtain ⟨p, l, dx, xs, rfl, _⟩ := h
    rfl
  · obtain ⟨p, l, dx, xs, rfl, hp, hl, k⟩ := h
    refine ⟨_, pss_cons (ps_fld (pv 0) (pe_callTy call_list_of (by rfl) T.flist bo_list (pa_cons (pv 1) pa_nil)) rfl) (pss_cons (ps_fld (pv 0) pe_int rfl) (pss_one (ps_fld (pv 0) pe_int rfl))), ?_⟩
    refine ⟨_, rfl, l, xs, rfl, .inl (SqL.of hl), fun c hc => ?_⟩
    have npc : p ≠ c := ne_of_none hp hc
    refine ⟨_, rfl, p, CS K, dx, [], rfl, (by rw [upd_ne npc]; exact hp), T.cSlow, T.nSlow_cells, (by show 0 < 1000; decide), ?_⟩
    refine ⟨_, rfl, p, CS K, dx, _, rfl, upd_same, T.cSlow, T.nSlow_told_lines, (by show 1 < 1000; decide), ?_⟩
    refine ⟨_, rfl, p, CS K, dx, _, rfl, upd_same, T.cSlow, T.nSlow_put_lines, two_len _ _ _ _, ?_⟩
    refine k c _ hc ?_ ?_ fun b o e hb => ?_
    · rw [upd_same, sf_mk]
    · rw [upd_ne npc.symm, upd_ne npc.symm, upd_ne npc.symm, upd_same]
    · rw [upd_ne hb, upd_ne hb, upd_ne hb, upd_ne (ne_of_none e hc)]
      exact e
theorem scWh : FnScope ["self"] ["self"] (defScope sSlow_whole) := ⟨rfl, rfl, rfl, by decide +kernel, rfl, by decide +kernel, by decide +kernel⟩
theorem ok_whole (T : Tx K mg) : Ok P w K mg base 1 (He.ma K (CS K) "whole") ["self"] (spWhole K) := by
  refine ok_by T.DSlow_whole scWh (fun vs H Q E h => ?_) (fun _ _ _ _ _ _ us hl => match us, hl with | [_], _ => rfl) (fun f cdv A outer s H vs Q E hr h => ?_)
  · obtain ⟨p, dx, c, r, w, xs, rfl, _⟩ := h
    rfl
  · obtain ⟨p, dx, c, r, w, xs, rfl, hp, hc, k⟩ := h
    refine ⟨_, pss_one (ps_ret (pe_callTy call_list_of (by rfl) T.flist bo_list (pa_cons (pe_fld (pv 0) rfl) pa_nil))), ?_⟩
    exact ⟨_, rfl, p, CS K, dx, _, _, rfl, hp, T.cSlow, T.nSlow_cells, sf_cells _ _ _, c, xs, rfl, .inl (SqL.of hc), fun l hl => k l hl⟩
theorem scSz : FnScope ["self"] ["self"] (defScope sSlow_size) := ⟨rfl, rfl, rfl, by decide +kernel, rfl, by decide +kernel, by decide +kernel⟩
theorem ok_size (T : Tx K mg) : Ok P w K mg base 1 (He.ma K (CS K) "size") ["self"] (spSize K) := by
  refine ok_by T.DSlow_size scSz (fun vs H Q E h => ?_) (fun _ _ _ _ _ _ us hl => match us, hl with | [_], _ => rfl) (fun f cdv A outer s H vs Q E hr h => ?_)
  · obtain ⟨p, dx, c, r, w, xs, rfl, _⟩ := h
    rfl
  · obtain ⟨p, dx, c, r, w, xs, rfl, hp, hc, k⟩ := h
    refine ⟨_, pss_one (ps_ret (pe_callB call_len_seq (by rfl) T.flen bo_len (pa_cons (pe_fld (pv 0) rfl) pa_nil))), ?_⟩
    exact ⟨_, rfl, p, CS K, dx, _, _, rfl, hp, T.cSlow, T.nSlow_cells, sf_cells _ _ _, c, xs, rfl, .inl (SqL.of hc), k⟩
theorem scNL : FnScope ["self", "number"] ["self", "number"] (defScope sSlow_need_line) := ⟨rfl, rfl, rfl, by decide +kernel, rfl, by decide +kernel, by decide +kernel⟩
theorem ok_need_line (T : Tx K mg) : Ok P w K mg base 1 (He.ma K (CS K) "need_line") ["self", "number"] (spNeedLine K) := by
  obtain ⟨tI, hI⟩ := T.iIN_LINE
  refine ok_by T.DSlow_need_line scNL (fun vs H Q E h => ?_) (fun _ _ _ _ _ _ us hl => match us, hl with | [_, _], _ => rfl) (fun f cdv A outer s H vs Q E hr h => ?_)
  · obtain ⟨p, dx, c, r, w, xs, n, rfl, _⟩ := h
    rfl
  · obtain ⟨p, dx, c, r, w, xs, n, rfl, hp, hc, hn, k⟩ := h
    refine ⟨_, pss_one (ps_if (PW.pt (pw_or (pt_not (pt_val (pe_callB call_isi (by rfl) T.fisinstance bo_isi (pa_cons (pv 1) (pa_cons (pe_bltn (v := .ty "int") (by rfl) T.fint bo_int rfl) pa_nil)))))
      (pw_or (pt_val (pe_callB call_isi (by rfl) T.fisinstance bo_isi (pa_cons (pv 1) (pa_cons (pe_bltn (v := .ty "bool") (by rfl) T.fbool bo_bool rfl) pa_nil))))
        (pw_or1 (pt_not (pt_chain op_le op_lt pe_int (pe_op op_mul (pv 1) (pe_glob (v := .int 4) rfl hI ⟨tI, rfl⟩)) (pe_callB call_len_seq (by rfl) T.flen bo_len (pa_cons (pe_fld (pv 0) rfl) pa_nil)))))))) (pss_one ps_never) pss_nil), ?_⟩
    refine ⟨_, rfl, _, _, _, _, true, rfl, .ty "int", .base (.int _), kit_ty (by decide +kernel), _, rfl, iteF ?_⟩
    refine ⟨_, rfl, _, _, _, _, false, rfl, .ty "bool", .base (.int _), kit_ty (by decide +kernel), _, rfl, iteF ?_⟩
    refine ⟨_, rfl, _, _, rfl, rfl, .inr ⟨by decide, by decide⟩, _, _, rfl, rfl, _, rfl, iteD (by omega) ?_⟩
    refine ⟨_, rfl, p, CS K, dx, _, _, rfl, hp, T.cSlow, T.nSlow_cells, sf_cells _ _ _, c, xs, rfl, .inl (SqL.of hc), _, _, rfl, rfl, _, rfl, iteNS (by omega) k⟩
theorem scFo : FnScope ["self", "number"] ["self", "number"] (defScope sSlow_four) := ⟨rfl, rfl, rfl, by decide +kernel, rfl, by decide +kernel, by decide +kernel⟩
theorem ok_four (T : Tx K mg) : Ok P w K mg base 2 (He.ma K (CS K) "four") ["self", "number"] (spFour K) := by
  obtain ⟨tI, hI⟩ := T.iIN_LINE
  obtain ⟨fdN, GN, bN⟩ := ok_need_line (P := P) (w := w) (base := base) T
  refine ok_by T.DSlow_four scFo (fun vs H Q E h => ?_) (fun _ _ _ _ _ _ us hl => match us, hl with | [_, _], _ => rfl) (fun f cdv A outer s H vs Q E hr h => ?_)
  · obtain ⟨p, dx, c, r, w, cs, n, rfl, _⟩ := h
    rfl
  · obtain ⟨p, dx, c, r, w, cs, n, rfl, hp, hc, hn, k⟩ := h
    refine ⟨_, pss_cons (ps_expr (pe_meth (pv 0) T.cSlow T.mSlow_need_line GN hr bN .nil pass0 (pa_cons (pv 1) pa_nil)))
      (pss_cons (ps_fldaug (pv 0) pe_int in_add)
      (pss_one (ps_ret (pe_callTy call_tuple_of (by rfl) T.ftuple bo_tuple (pa_cons (pe_slice sl_list (pe_fld (pv 0) rfl) (po_some (pe_op op_mul (pv 1) (pe_glob (v := .int 4) rfl hI ⟨tI, rfl⟩)))
        (po_some (pe_op op_add (pe_op op_mul (pv 1) (pe_glob (v := .int 4) rfl hI ⟨tI, rfl⟩)) (pe_glob (v := .int 4) rfl hI ⟨tI, rfl⟩)))) pa_nil))))), ?_⟩
    refine ⟨_, rfl, p, dx, _, rfl, hp, sf_no _ _ _ (by decide +kernel) (by decide +kernel) (by decide +kernel), _, rfl, p, dx, c, r, w, _, n, rfl, hp, hc, (by rw [List.length_map]; omega), ?_⟩
    refine ⟨_, rfl, p, CS K, dx, _, _, rfl, hp, T.cSlow, T.nSlow_told_lines, sf_told _ _ _, _, _, rfl, rfl, dx, _, hp, (by show 3 < 1000; decide), ?_⟩
    have npc : c ≠ p := ne_of hc hp (by intro z; cases z)
    refine ⟨_, rfl, p, CS K, dx, _, _, rfl, upd_same, T.cSlow, T.nSlow_cells, (by rw [sf_put_told]; exact sf_cells _ _ _), ?_⟩
    refine ⟨_, rfl, _, _, rfl, rfl, .inr ⟨by decide, by decide⟩, _, rfl, _, rfl, _, _, rfl, rfl, .inr ⟨by decide, by decide⟩, _, _, rfl, rfl, _, rfl, ?_⟩
    refine ⟨c, _, rfl, SqL.of (by rw [upd_ne npc]; exact hc), fun l hl => ?_⟩
    refine ⟨l, _, rfl, .inl ⟨SqL.of upd_same, fun q hq => ?_⟩⟩
    have npl : p ≠ l := ne_of_none upd_same hl
    have npq : p ≠ q := ne_of_none (show upd (upd H p _) l _ p = _ by rw [upd_ne npl]; exact upd_same) hq
    refine k q _ ?_ ?_ fun b o e hb => ?_
    · rw [upd_same, cut_four cs _ _ n (by omega) (by omega) (by omega)]
    · rw [upd_ne npq, upd_ne npl, upd_same, sf_put_told]
    · have nbl : b ≠ l := ne_of_none (show upd H p _ b = some o by rw [upd_ne hb]; exact e) hl
      have nbq : b ≠ q := ne_of_none (show upd (upd H p _) l _ b = some o by rw [upd_ne nbl, upd_ne hb]; exact e) hq
      rw [upd_ne nbq, upd_ne nbl, upd_ne hb]
      exact e
theorem scPF : FnScope ["self", "number", "words", "at"] ["self", "number", "words"] (defScope sSlow_put_four) := ⟨rfl, rfl, rfl, by decide +kernel, rfl, by decide +kernel, by decide +kernel⟩
theorem ok_put_four (T : Tx K mg) : Ok P w K mg base 2 (He.ma K (CS K) "put_four") ["self", "number", "words"] (spPutFour K) := by
  obtain ⟨tI, hI⟩ := T.iIN_LINE
  obtain ⟨fdN, GN, bN⟩ := ok_need_line (P := P) (w := w) (base := base) T
  refine ok_by T.DSlow_put_four scPF (fun vs H Q E h => ?_) (fun _ _ _ _ _ _ us hl => match us, hl with | [_, _, _], _ => rfl) (fun f cdv A outer s H vs Q E hr h => ?_)
  · obtain ⟨p, dx, c, q, r, w, cs, ws, n, rfl, _⟩ := h
    rfl
  · obtain ⟨p, dx, c, q, r, w, cs, ws, n, rfl, hp, hc, hq, hn, l1, l2, k⟩ := h
    refine ⟨_, pss_cons (ps_expr (pe_meth (pv 0) T.cSlow T.mSlow_need_line GN hr bN .nil pass0 (pa_cons (pv 1) pa_nil)))
      (pss_cons (ps_fldaug (pv 0) pe_int in_add)
      (pss_cons (ps_set (i := 3) scPF.nd rfl (Or.inl rfl) (pe_op op_mul (pv 1) (pe_glob (v := .int 4) rfl hI ⟨tI, rfl⟩)))
      (pss_one (ps_fld (pv 0) (pe_op op_cat (pe_op op_cat (pe_slice sl_list (pe_fld (pv 0) rfl) po_none (po_some (pv 3))) (pe_callTy call_list_of (by rfl) T.flist bo_list (pa_cons (pv 2) pa_nil)))
        (pe_slice sl_list (pe_fld (pv 0) rfl) (po_some (pe_op op_add (pv 3) (pe_glob (v := .int 4) rfl hI ⟨tI, rfl⟩))) po_none)) rfl)))), ?_⟩
    refine ⟨_, rfl, p, dx, _, rfl, hp, sf_no _ _ _ (by decide +kernel) (by decide +kernel) (by decide +kernel), _, rfl, p, dx, c, r, w, _, n, rfl, hp, hc, (by rw [List.length_map]; omega), ?_⟩
    refine ⟨_, rfl, p, CS K, dx, _, _, rfl, hp, T.cSlow, T.nSlow_put_lines, sf_puts _ _ _, _, _, rfl, rfl, dx, _, hp, (by show 3 < 1000; decide), ?_⟩
    rw [sf_put_puts]
    have npc : c ≠ p := ne_of hc hp (by intro z; cases z)
    have npq : q ≠ p := ne_of hq hp (by intro z; cases z)
    have kp : ∀ b o, H b = some o → b ≠ p → upd H p (.ins (CS K) dx (sf c r (w + 1))) b = some o := fun b o e hb => by rw [upd_ne hb]; exact e
    generalize hH1 : upd H p (.ins (CS K) dx (sf c r (w + 1))) = H1 at kp
    have hp1 : H1 p = some (.ins (CS K) dx (sf c r (w + 1))) := by rw [← hH1]; exact upd_same
    refine ⟨_, rfl, _, _, rfl, rfl, .inr ⟨by decide, by decide⟩, ?_⟩
    refine ⟨_, rfl, p, CS K, dx, _, _, rfl, hp1, T.cSlow, T.nSlow_cells, sf_cells _ _ _, ?_⟩
    refine ⟨_, rfl, _, rfl, c, _, rfl, SqL.of (kp c _ hc npc), fun a1 n1 => ?_⟩
    have s1 : Same H1 (upd H1 a1 (.lst (cutV (cs.map V.int) none (some ((n : Int) * 4))))) := fun b o e => by rw [upd_ne (ne_of_none e n1)]; exact e
    rw [cut_lo cs _ (4 * n) (by omega)] at s1 ⊢
    generalize hH2 : upd H1 a1 (.lst ((cs.take (4 * n)).map V.int)) = H2 at s1
    have e1 : H2 a1 = some (.lst ((cs.take (4 * n)).map V.int)) := by rw [← hH2]; exact upd_same
    refine ⟨_, rfl, q, _, rfl, .inr (SqT.of (s1 _ _ (kp q _ hq npq))), fun a2 n2 => ?_⟩
    have s2 : Same H2 (upd H2 a2 (.lst (ws.map V.int))) := fun b o e => by rw [upd_ne (ne_of_none e n2)]; exact e
    generalize hH3 : upd H2 a2 (.lst (ws.map V.int)) = H3 at s2
    have e2 : H3 a2 = some (.lst (ws.map V.int)) := by rw [← hH3]; exact upd_same
    refine ⟨a1, a2, _, _, rfl, rfl, s2 _ _ e1, e2, (by rw [List.length_map, List.length_map, List.length_take]; exact Nat.le_trans (show _ ≤ 3000 by omega) (by decide)), fun a3 n3 => ?_⟩
    have s3 : Same H3 (upd H3 a3 (.lst ((cs.take (4 * n)).map V.int ++ ws.map V.int))) := fun b o e => by rw [upd_ne (ne_of_none e n3)]; exact e
    generalize hH4 : upd H3 a3 (.lst ((cs.take (4 * n)).map V.int ++ ws.map V.int)) = H4 at s3
    have e3 : H4 a3 = some (.lst ((cs.take (4 * n)).map V.int ++ ws.map V.int)) := by rw [← hH4]; exact upd_same
    refine ⟨_, rfl, p, CS K, dx, _, _, rfl, s3 _ _ (s2 _ _ (s1 _ _ hp1)), T.cSlow, T.nSlow_cells, sf_cells _ _ _, ?_⟩
    refine ⟨_, rfl, _, _, rfl, rfl, _, rfl, c, _, rfl, SqL.of (s3 _ _ (s2 _ _ (s1 _ _ (kp c _ hc npc)))), fun a4 n4 => ?_⟩
    have s4 : Same H4 (upd H4 a4 (.lst (cutV (cs.map V.int) (some ((n : Int) * 4 + 4)) none))) := fun b o e => by rw [upd_ne (ne_of_none e n4)]; exact e
    rw [cut_hi cs _ (4 * n + 4) (by omega)] at s4 ⊢
    generalize hH5 : upd H4 a4 (.lst ((cs.drop (4 * n + 4)).map V.int)) = H5 at s4
    have e4 : H5 a4 = some (.lst ((cs.drop (4 * n + 4)).map V.int)) := by rw [← hH5]; exact upd_same
    refine ⟨a3, a4, _, _, rfl, rfl, s4 _ _ e3, e4, (by rw [List.length_append, List.length_map, List.length_map, List.length_map, List.length_take, List.length_drop]; exact Nat.le_trans (show _ ≤ 3000 by omega) (by decide)), fun a5 n5 => ?_⟩
    have s14 : Same H1 H5 := ((s1.trans s2).trans s3).trans s4
    have np5 : p ≠ a5 := ne_of_none (s14 _ _ hp1) n5
    refine ⟨_, rfl, p, CS K, dx, _, rfl, (by rw [upd_ne np5]; exact s14 _ _ hp1), T.cSlow, T.nSlow_cells, (by show 3 < 1000; decide), ?_⟩
    have f5 : H a5 = none := by
      have z := s14.free n5
      rw [← hH1, upd_ne np5.symm] at z
      exact z
    refine k a5 _ f5 ?_ ?_ fun b o e hb => ?_
    · rw [upd_ne np5.symm, upd_same]
      unfold putFour
      rw [List.map_append, List.map_append]
    · rw [upd_same, sf_put_cells]
    · rw [upd_ne hb, upd_ne (ne_of_none (s14 _ _ (kp b o e hb)) n5)]
      exact s14 _ _ (kp b o e hb)
end
end RM

namespace RM
open PySem PySem.Spec PyProof.Rows L2
/-! ### a line -/
def spLineInit (K : PySem.W.Frag) : Sp := fun vs H Q _ => ∃ (a q dx : Addr) (n : Int) (ch : Bool) (xs : List V), vs = [.ref a, .int n, .ref q, .bl ch] ∧ H a = some (.ins (CL K) dx []) ∧ H q = some (.tup xs) ∧
  ∀ (f : Addr) (H' : Hp), H f = none → H' f = some (.lst xs) → H' a = some (.ins (CL K) dx (lf n f ch)) → (∀ b o, H b = some o → b ≠ a → H' b = some o) → Q .non H'
def spShown (K : PySem.W.Frag) : Sp := fun vs H Q _ => ∃ (a f dx : Addr) (n : Int) (ch : Bool) (xs : List V), vs = [.ref a] ∧ H a = some (.ins (CL K) dx (lf n f ch)) ∧ H f = some (.lst xs) ∧
  ∀ (tp tq : Addr) (H' : Hp), H tp = none → H' tp = some (.tup [.int n, .ref tq, .bl ch]) → H' tq = some (.tup xs) → Same H H' → Q (.ref tp) H'
section
variable {P : Program} {w : World} {K : PySem.W.Frag} {mg : Str → Option Value} {base : Heap}
theorem scLI : FnScope ["self", "number", "words", "changed"] ["self", "number", "words", "changed"] (defScope sLine_init) := ⟨rfl, rfl, rfl, by decide +kernel, rfl, by decide +kernel, by decide +kernel⟩
theorem ok_LineInit (T : Tx K mg) : Ok P w K mg base 1 (He.ma K (CL K) "__init__") ["self", "number", "words", "changed"] (spLineInit K) := by
  refine ok_by T.DLine_init scLI (fun vs H Q E h => ?_) (fun _ _ _ _ _ _ us hl => match us, hl with | [_, _, _, _], _ => rfl) (fun f cdv A outer s H vs Q E hr h => ?_)
  · obtain ⟨a, q, dx, n, ch, xs, rfl, _⟩ := h
    rfl
  · obtain ⟨p, q, dx, n, ch, xs, rfl, hp, hl, k⟩ := h
    refine ⟨_, pss_cons (ps_fld (pv 0) (pv 1) rfl) (pss_cons (ps_fld (pv 0) (pe_callTy call_list_of (by rfl) T.flist bo_list (pa_cons (pv 2) pa_nil)) rfl) (pss_one (ps_fld (pv 0) (pv 3) rfl))), ?_⟩
    have nqp : q ≠ p := ne_of hl hp (by intro z; cases z)
    refine ⟨_, rfl, _, rfl, p, CL K, dx, [], rfl, hp, T.cLine, T.nLine_number, (by show 0 < 1000; decide), ?_⟩
    refine ⟨_, rfl, q, xs, rfl, .inr (SqT.of (by rw [upd_ne nqp]; exact hl)), fun c hc => ?_⟩
    have npc : p ≠ c := ne_of_none upd_same hc
    have hc0 : H c = none := by rw [upd_ne npc.symm] at hc; exact hc
    refine ⟨_, rfl, p, CL K, dx, _, rfl, (by rw [upd_ne npc]; exact upd_same), T.cLine, T.nLine_fours, (by show 1 < 1000; decide), ?_⟩
    refine ⟨_, rfl, _, rfl, p, CL K, dx, _, rfl, upd_same, T.cLine, T.nLine_changed, two_len _ _ _ _, ?_⟩
    refine k c _ hc0 ?_ ?_ fun b o e hb => ?_
    · rw [upd_ne npc.symm, upd_ne npc.symm, upd_same]
    · rw [upd_same, lf_mk]
    · rw [upd_ne hb, upd_ne hb, upd_ne (ne_of_none e hc0), upd_ne hb]
      exact e
theorem scSh : FnScope ["self"] ["self"] (defScope sLine_shown) := ⟨rfl, rfl, rfl, by decide +kernel, rfl, by decide +kernel, by decide +kernel⟩
theorem ok_shown (T : Tx K mg) : Ok P w K mg base 1 (He.ma K (CL K) "shown") ["self"] (spShown K) := by
  refine ok_by T.DLine_shown scSh (fun vs H Q E h => ?_) (fun _ _ _ _ _ _ us hl => match us, hl with | [_], _ => rfl) (fun f cdv A outer s H vs Q E hr h => ?_)
  · obtain ⟨a, q, dx, n, ch, xs, rfl, _⟩ := h
    rfl
  · obtain ⟨p, q, dx, n, ch, xs, rfl, hp, hl, k⟩ := h
    refine ⟨_, pss_one (ps_ret (pe_tup (pa_cons (pe_fld (pv 0) rfl) (pa_cons (pe_callTy call_tuple_of (by rfl) T.ftuple bo_tuple (pa_cons (pe_fld (pv 0) rfl) pa_nil)) (pa_cons (pe_fld (pv 0) rfl) pa_nil))))), ?_⟩
    refine ⟨_, rfl, p, CL K, dx, _, _, rfl, hp, T.cLine, T.nLine_number, lf_num _ _ _, ?_⟩
    refine ⟨_, rfl, p, CL K, dx, _, _, rfl, hp, T.cLine, T.nLine_fours, lf_fours _ _ _, q, xs, rfl, .inl ⟨SqL.of hl, fun tq hq => ?_⟩⟩
    have npq : p ≠ tq := ne_of_none hp hq
    refine ⟨_, rfl, p, CL K, dx, _, _, rfl, (by rw [upd_ne npq]; exact hp), T.cLine, T.nLine_changed, lf_ch _ _ _, (by show 3 ≤ sizeLine; decide), fun tp htp => ?_⟩
    have nqp : tq ≠ tp := ne_of_none upd_same htp
    refine k tp tq _ ?_ upd_same (by rw [upd_ne nqp]; exact upd_same) fun b o e => ?_
    · rw [upd_ne nqp.symm] at htp
      exact htp
    · have h1 : b ≠ tq := ne_of_none e hq
      have h2 : b ≠ tp := ne_of_none (show upd H tq _ b = some o by rw [upd_ne h1]; exact e) htp
      rw [upd_ne h2, upd_ne h1]
      exact e
end
end RM

namespace RM
open PySem PySem.Spec PyProof.Rows L2
/-! ### the near memory, first part -/
def spNearInit (K : PySem.W.Frag) : Sp := fun vs H Q _ => ∃ (p s dx : Addr) (S : Nat), vs = [.ref p, .ref s, .int S] ∧ H p = some (.ins (CN K) dx []) ∧ (S = 1 ∨ S = 2 ∨ S = 4) ∧
  ∀ (rl : Addr) (rs : List Addr) (H' : Hp), H rl = none → rs.length = S → rs.Nodup → (∀ r ∈ rs, H r = none ∧ r ≠ rl ∧ H' r = some (.lst [])) → H' rl = some (.lst (rs.map V.ref)) → H' p = some (.ins (CN K) dx (nf s rl)) →
    (∀ b o, H b = some o → b ≠ p → H' b = some o) → Q .non H'
def spNeedAddr (K : PySem.W.Frag) : Sp := fun vs H Q _ => ∃ (p s dx dxs rl c : Addr) (r w : Int) (xs : List V) (a : Nat), vs = [.ref p, .int a] ∧ H p = some (.ins (CN K) dx (nf s rl)) ∧ H s = some (.ins (CS K) dxs (sf c r w)) ∧ H c = some (.lst xs) ∧ a < xs.length ∧ Q .non H
def spRoomOf (K : PySem.W.Frag) : Sp := fun vs H Q _ => ∃ (p s dx rl r : Addr) (rs : List Addr) (n : Nat), vs = [.ref p, .int n] ∧ H p = some (.ins (CN K) dx (nf s rl)) ∧ H rl = some (.lst (rs.map V.ref)) ∧ rs[n % rs.length]? = some r ∧ Q (.ref r) H
def spLineOf (K : PySem.W.Frag) : Sp := fun vs H Q _ => ∃ (p s dx rl r : Addr) (rs as : List Addr) (ls : List Ln) (a : Nat) (ω : Own) (t j : Nat), vs = [.ref p, .int a] ∧ H p = some (.ins (CN K) dx (nf s rl)) ∧ H rl = some (.lst (rs.map V.ref)) ∧
  rs[a / 4 % rs.length]? = some r ∧ RoomAt K H ω t r j ls as ∧ ((∀ l ∈ ls, l.num ≠ a / 4) → Q .non H) ∧ ∀ (i : Nat) (x : Addr) (l : Ln), as[i]? = some x → ls[i]? = some l → l.num = a / 4 → Q (.ref x) H
def spWriteBack (K : PySem.W.Frag) : Sp := fun vs H Q _ => ∃ (p s dx rl a dxl q dxs c : Addr) (r w : Int) (cs ws : List Int) (n : Nat) (ch : Bool), vs = [.ref p, .ref a] ∧ H p = some (.ins (CN K) dx (nf s rl)) ∧ H a = some (.ins (CL K) dxl (lf n q ch)) ∧
  H q = some (.lst (ws.map V.int)) ∧ H s = some (.ins (CS K) dxs (sf c r w)) ∧ H c = some (.lst (cs.map V.int)) ∧ a ≠ s ∧ 4 * n + 4 ≤ cs.length ∧ cs.length ≤ 1000 ∧ ws.length ≤ 1000 ∧
  (ch = false → Q .non H) ∧ (ch = true → ∀ (c' : Addr) (H' : Hp), H c' = none → H' c' = some (.lst ((putFour cs n ws).map V.int)) → H' s = some (.ins (CS K) dxs (sf c' r (w + 1))) → H' a = some (.ins (CL K) dxl (lf n q false)) →
    (∀ b o, H b = some o → b ≠ s → b ≠ a → H' b = some o) → Q .non H')
section
variable {P : Program} {w : World} {K : PySem.W.Frag} {mg : Str → Option Value} {base : Heap}
theorem scNI : FnScope ["self", "slow", "sets", "number"] ["self", "slow", "sets"] (defScope sNear_init) := ⟨rfl, rfl, rfl, by decide +kernel, rfl, by decide +kernel, by decide +kernel⟩
theorem ok_NearInit (T : Tx K mg) : Ok P w K mg base 1 (He.ma K (CN K) "__init__") ["self", "slow", "sets"] (spNearInit K) := by
  obtain ⟨fd, F⟩ := T.DNear_init
  obtain ⟨ds, hv, hB⟩ := F.binds1 (ps := ["self", "slow", "sets"]) 3 1 (by simp) rfl fun TT kV doc pm an cdv ct us its hl hi => match us, hl, its, hi with
    | [_, _, _], _, [_], _ => ⟨_, rfl, rfl⟩
  have hv' : Vals [] ds := hv
  cases hv'
  refine ⟨fd, F.ok scNI (fun vs H Q E h => ?_) (fun cdv A outer s H vs Q E hr h => ?_), hB⟩
  · obtain ⟨p, s, dx, S, rfl, _⟩ := h
    rfl
  · obtain ⟨p, s, dx, S, rfl, hp, hS, k⟩ := h
    have hin : inV (.int (S : Int)) [.int 1, .int 2, .int 4] = true := by
      rcases hS with rfl | rfl | rfl <;> decide
    refine ⟨_, PSs.nox (pss_cons (ps_if (PW.pt (pw_or (pt_not (pt_val (pe_callB call_isi (by rfl) T.fisinstance bo_isi (pa_cons (pv 2) (pa_cons (pe_bltn (v := .ty "int") (by rfl) T.fint bo_int rfl) pa_nil)))))
      (pw_or (pt_val (pe_callB call_isi (by rfl) T.fisinstance bo_isi (pa_cons (pv 2) (pa_cons (pe_bltn (v := .ty "bool") (by rfl) T.fbool bo_bool rfl) pa_nil))))
        (pw_or1 (pt_cmpR op_notIn_seq (pv 2) (pe_tup (pa_cons pe_int (pa_cons pe_int (pa_cons pe_int pa_nil)))) (by rfl)))))) (pss_one ps_never) pss_nil)
      (pss_cons (ps_fld (pv 0) (pv 1) rfl)
      (pss_one (ps_fld (pv 0) (pe_lc (own := [("number", 3)]) (g := gName 3) (tt := tYes) rfl scNI.nd (pi_range1 rfl T.frange (pa_cons (pv 2) pa_nil)) (blkOk_by (N := ["self", "slow", "sets", "number"]) (sc := defScope sNear_init) (by decide +kernel))
        (fun _ _ _ _ _ => pg_name (i := 3) scNI.nd rfl (Or.inl rfl)) (fun _ _ _ _ _ => pts_nil) (fun _ _ _ _ _ => pe_lst pa_nil)) rfl)))), ?_⟩
    refine ⟨_, rfl, _, _, _, _, true, rfl, .ty "int", .base (.int _), kit_ty (by decide +kernel), _, rfl, iteF ?_⟩
    refine ⟨_, rfl, _, _, _, _, false, rfl, .ty "bool", .base (.int _), kit_ty (by decide +kernel), _, rfl, iteF ?_⟩
    refine ⟨_, rfl, (by show 3 ≤ sizeLine; decide), fun tp ht => ⟨tp, _, rfl, .inr (SqT.of upd_same), rfl, rfl, false, (by rw [hin]; rfl), iteF ?_⟩⟩
    have npt : p ≠ tp := ne_of_none hp ht
    refine ⟨_, rfl, _, rfl, p, CN K, dx, [], rfl, (by rw [upd_ne npt]; exact hp), T.cNear, T.nNear_slow, (by show 0 < 1000; decide), ?_⟩
    have kp : ∀ b o, H b = some o → b ≠ p → upd (upd H tp (.tup [.int 1, .int 2, .int 4])) p (.ins (CN K) dx (putF "slow" (.ref s) [])) b = some o := fun b o e hb => by rw [upd_ne hb, upd_ne (ne_of_none e ht)]; exact e
    have kn : ∀ b, upd (upd H tp (.tup [.int 1, .int 2, .int 4])) p (.ins (CN K) dx (putF "slow" (.ref s) [])) b = none → H b = none := fun b e => by
      by_cases h1 : b = p
      · rw [h1, upd_same] at e
        cases e
      · rw [upd_ne h1] at e
        by_cases h2 : b = tp
        · rw [h2, upd_same] at e
          cases e
        · rw [upd_ne h2] at e
          exact e
    have hp1 : upd (upd H tp (.tup [.int 1, .int 2, .int 4])) p (.ins (CN K) dx (putF "slow" (.ref s) [])) p = some (.ins (CN K) dx (putF "slow" (.ref s) [])) := upd_same
    show _
    generalize upd (upd H tp (.tup [.int 1, .int 2, .int 4])) p (.ins (CN K) dx (putF "slow" (.ref s) [])) = H1 at kp kn hp1 ⊢
    refine ⟨_, rfl, (S : Int), rfl, (by omega), (by omega), fun D hD => lc_range (lo := 0) (n := S) (fun i H2 => ∃ rs : List Addr, rs.length = i ∧ rs.Nodup ∧ H2 D = some (.lst (rs.map V.ref)) ∧ (∀ r ∈ rs, H1 r = none ∧ r ≠ D ∧ H2 r = some (.lst [])) ∧ Same H1 H2) ?_ ?_ ?_⟩
    · exact ⟨[], rfl, List.nodup_nil, upd_same, (fun r hr => by cases hr), fun b o e => by rw [upd_ne (ne_of_none e hD)]; exact e⟩
    · rintro i H2 hi ⟨rs, hl, nd, hd, hrs, sm⟩
      refine ⟨rfl, ⟨Nat.zero_le _, fun q hq => ⟨_, (by rw [upd_ne (ne_of_none hd hq)]; exact hd), ?_, rs ++ [q], ?_, ?_, ?_, ?_, ?_⟩⟩⟩
      · rw [List.length_map, hl]
        exact Nat.lt_of_lt_of_le (show i < 4 by omega) (by decide)
      · rw [List.length_append, hl]
        rfl
      · have hm : ¬ q ∈ rs := fun z => by
          obtain ⟨_, _, e⟩ := hrs q z
          rw [hq] at e
          cases e
        rw [List.nodup_append]
        refine ⟨nd, by simp, fun a ha b hb => ?_⟩
        have eb : b = q := by simpa using hb
        intro z
        exact hm (by rw [← eb, ← z]; exact ha)
      · rw [upd_same, List.map_append]
        rfl
      · intro r hr
        have nqD : q ≠ D := fun z => by
          rw [z, hd] at hq
          cases hq
        rcases List.mem_append.mp hr with hr | hr
        · obtain ⟨h1, h2, h3⟩ := hrs r hr
          refine ⟨h1, h2, ?_⟩
          rw [upd_ne h2, upd_ne (ne_of_none h3 hq)]
          exact h3
        · have e : r = q := by simpa using hr
          subst e
          refine ⟨sm.free hq, nqD, ?_⟩
          rw [upd_ne nqD, upd_same]
      · intro b o e
        rw [upd_ne (ne_of_none e hD), upd_ne (ne_of_none (sm b o e) hq)]
        exact sm b o e
    · rintro H2 ⟨rs, hl, nd, hd, hrs, sm⟩
      have npD : p ≠ D := ne_of_none hp1 hD
      refine ⟨_, rfl, p, CN K, dx, _, rfl, sm _ _ hp1, T.cNear, T.nNear_rooms, (by show 1 < 1000; decide), ?_⟩
      refine k D rs _ (kn D hD) hl nd (fun r hr => ?_) ?_ ?_ fun b o e hb => ?_
      · obtain ⟨h1, h2, h3⟩ := hrs r hr
        refine ⟨kn r h1, h2, ?_⟩
        rw [upd_ne (ne_of_none hp1 h1).symm]
        exact h3
      · rw [upd_ne npD.symm]
        exact hd
      · rw [upd_same, nf_mk]
      · rw [upd_ne hb]
        exact sm b o (kp b o e hb)
theorem scNA : FnScope ["self", "address"] ["self", "address"] (defScope sNear_need_address) := ⟨rfl, rfl, rfl, by decide +kernel, rfl, by decide +kernel, by decide +kernel⟩
theorem ok_need_address (T : Tx K mg) : Ok P w K mg base 2 (He.ma K (CN K) "need_address") ["self", "address"] (spNeedAddr K) := by
  obtain ⟨fdS, GS, bS⟩ := ok_size (P := P) (w := w) (base := base) T
  refine ok_by T.DNear_need_address scNA (fun vs H Q E h => ?_) (fun _ _ _ _ _ _ us hl => match us, hl with | [_, _], _ => rfl) (fun f cdv A outer s H vs Q E hr h => ?_)
  · obtain ⟨p, s, dx, dxs, rl, c, r, w, xs, a, rfl, _⟩ := h
    rfl
  · obtain ⟨p, s, dx, dxs, rl, c, r, w, xs, a, rfl, hp, hs, hc, ha, k⟩ := h
    refine ⟨_, pss_one (ps_if (PW.pt (pw_or (pt_not (pt_val (pe_callB call_isi (by rfl) T.fisinstance bo_isi (pa_cons (pv 1) (pa_cons (pe_bltn (v := .ty "int") (by rfl) T.fint bo_int rfl) pa_nil)))))
      (pw_or (pt_val (pe_callB call_isi (by rfl) T.fisinstance bo_isi (pa_cons (pv 1) (pa_cons (pe_bltn (v := .ty "bool") (by rfl) T.fbool bo_bool rfl) pa_nil))))
        (pw_or1 (pt_not (pt_chain op_le op_lt pe_int (pv 1) (pe_meth0 (pe_fld (pv 0) rfl) T.cSlow T.mSlow_size GS hr bS .nil pass0))))))) (pss_one ps_never) pss_nil), ?_⟩
    refine ⟨_, rfl, _, _, _, _, true, rfl, .ty "int", .base (.int _), kit_ty (by decide +kernel), _, rfl, iteF ?_⟩
    refine ⟨_, rfl, _, _, _, _, false, rfl, .ty "bool", .base (.int _), kit_ty (by decide +kernel), _, rfl, iteF ?_⟩
    refine ⟨_, rfl, _, _, rfl, rfl, _, rfl, iteD (by omega) ?_⟩
    refine ⟨_, rfl, p, CN K, dx, _, _, rfl, hp, T.cNear, T.nNear_slow, nf_slow _ _, s, dxs, _, rfl, hs, sf_no _ _ _ (by decide +kernel) (by decide +kernel) (by decide +kernel), ?_⟩
    exact ⟨s, dxs, c, r, w, xs, rfl, hs, hc, _, _, rfl, rfl, _, rfl, iteNS (by omega) k⟩
theorem scRO : FnScope ["self", "number"] ["self", "number"] (defScope sNear_room_of) := ⟨rfl, rfl, rfl, by decide +kernel, rfl, by decide +kernel, by decide +kernel⟩
theorem ok_room_of (T : Tx K mg) : Ok P w K mg base 1 (He.ma K (CN K) "room_of") ["self", "number"] (spRoomOf K) := by
  refine ok_by T.DNear_room_of scRO (fun vs H Q E h => ?_) (fun _ _ _ _ _ _ us hl => match us, hl with | [_, _], _ => rfl) (fun f cdv A outer s H vs Q E hr h => ?_)
  · obtain ⟨p, s, dx, rl, r, rs, n, rfl, _⟩ := h
    rfl
  · obtain ⟨p, s, dx, rl, r, rs, n, rfl, hp, hl, hr', k⟩ := h
    have hpos : 0 < rs.length := by have := (List.getElem?_eq_some_iff.mp hr').1; omega
    refine ⟨_, pss_one (ps_ret (pe_ix ix_list (pe_fld (pv 0) rfl) (pe_op op_mod (pv 1) (pe_callB call_len_seq (by rfl) T.flen bo_len (pa_cons (pe_fld (pv 0) rfl) pa_nil))) (fun _ _ => rfl))), ?_⟩
    refine ⟨_, rfl, p, CN K, dx, _, _, rfl, hp, T.cNear, T.nNear_rooms, nf_rooms _ _, ?_⟩
    refine ⟨_, rfl, _, rfl, p, CN K, dx, _, _, rfl, hp, T.cNear, T.nNear_rooms, nf_rooms _ _, rl, _, rfl, .inl (SqL.of hl), _, _, rfl, rfl, (by rw [List.length_map]; omega), ?_⟩
    exact ⟨rl, _, _, _, rfl, rfl, SqL.of hl, at_of (j := n % rs.length) (v := V.ref r) (by rw [List.length_map]; omega) (by rw [List.getElem?_map, hr']; rfl), k⟩
theorem scLO : FnScope ["self", "address", "number", "one"] ["self", "address"] (defScope sNear_line_of) := ⟨rfl, rfl, rfl, by decide +kernel, rfl, by decide +kernel, by decide +kernel⟩
theorem ok_line_of (T : Tx K mg) : Ok P w K mg base 2 (He.ma K (CN K) "line_of") ["self", "address"] (spLineOf K) := by
  obtain ⟨tI, hI⟩ := T.iIN_LINE
  obtain ⟨fdR, GR, bR⟩ := ok_room_of (P := P) (w := w) (base := base) T
  refine ok_by T.DNear_line_of scLO (fun vs H Q E h => ?_) (fun _ _ _ _ _ _ us hl => match us, hl with | [_, _], _ => rfl) (fun f cdv A outer s H vs Q E hr h => ?_)
  · obtain ⟨p, s, dx, rl, r, rs, as, ls, a, ω, t, j, rfl, _⟩ := h
    rfl
  · obtain ⟨p, s, dx, rl, r, rs, as, ls, a, ω, t, j, rfl, hp, hl, hrs, hR, k1, k2⟩ := h
    refine ⟨_, pss_cons (ps_set (i := 2) scLO.nd rfl (Or.inl rfl) (pe_op op_fdiv (pv 1) (pe_glob (v := .int 4) rfl hI ⟨tI, rfl⟩)))
      (pss_cons (ps_for PassesOwn.never rfl (pi_list (pe_meth (pv 0) T.cNear T.mNear_room_of GR hr bR .nil pass0 (pa_cons (pv 2) pa_nil))) (pg_name (i := 3) scLO.nd rfl (Or.inl rfl))
        (pss_one (ps_if (pt_cmpR op_eq (pe_fld (pv 3) rfl) (pv 2) (nomark _)) (pss_one (ps_ret (pv 3))) pss_nil)))
      (pss_one (ps_ret pe_non))), ?_⟩
    have e4 : (a : Int) / 4 = ((a / 4 : Nat) : Int) := by omega
    refine ⟨_, rfl, _, _, rfl, rfl, ⟨by decide, by decide⟩, ?_⟩
    refine ⟨_, rfl, p, dx, _, rfl, hp, nf_no _ _ (by decide +kernel) (by decide +kernel), _, rfl, p, s, dx, rl, r, rs, a / 4, ?_, hp, hl, hrs, r, rfl, ⟨_, SqL.of hR.at_⟩, ?_⟩
    · show [V.ref p, V.int ((a : Int) / 4)] = _
      rw [e4]
    refine for_list (K := K) (a := r) (xs := as.map V.ref) (fun i σ H1 => H1 = H ∧ (∃ v : Option V, σ = [some (.ref p), some (.int a), some (.int ((a / 4 : Nat) : Int)), v]) ∧ ∀ (i' : Nat) (l : Ln), i' < i → ls[i']? = some l → l.num ≠ a / 4) ?_ (fun i σ H1 _ ⟨e, _⟩ => by rw [e]; exact SqL.of hR.at_) ?_ ?_
    · refine ⟨rfl, ⟨none, ?_⟩, fun i' l h => by omega⟩
      show [some (V.ref p), some (V.int a), some (V.int ((a : Int) / 4)), none] = _
      rw [e4]
    · rintro i x σ H1 hx ⟨rfl, ⟨v, rfl⟩, hno⟩
      obtain ⟨b, hb, rfl⟩ : ∃ b, as[i]? = some b ∧ x = V.ref b := by
        rw [List.getElem?_map] at hx
        cases e : as[i]? with
        | none =>
          rw [e] at hx
          cases hx
        | some b =>
          rw [e] at hx
          exact ⟨b, rfl, (Option.some.inj hx).symm⟩
      obtain ⟨l, hl'⟩ := Paired.left hR.ls hb
      obtain ⟨_, dxl, q, hb1, _, _⟩ := Paired.get hR.ls hb hl'
      refine ⟨_, rfl, b, CL K, dxl, _, _, rfl, hb1, T.cLine, T.nLine_number, lf_num _ _ _, _, rfl, rfl, _, rfl, ?_⟩
      by_cases e : l.num = a / 4
      · exact iteD (by rw [e]) ⟨_, rfl, k2 i b l hb hl' e⟩
      · refine iteDF (fun z => e (by injection z with z1; omega)) ⟨rfl, ⟨_, rfl⟩, fun i' l' h h' => ?_⟩
        by_cases ei : i' = i
        · rw [ei, hl'] at h'
          rw [← Option.some.inj h']
          exact e
        · exact hno i' l' (by omega) h'
    · rintro σ H1 ⟨rfl, ⟨v, rfl⟩, hno⟩
      refine k1 fun l hm => ?_
      obtain ⟨i, hi⟩ := List.mem_iff_getElem?.mp hm
      refine hno i l ?_ hi
      rw [List.length_map, Paired.length hR.ls]
      exact (List.getElem?_eq_some_iff.mp hi).1
theorem scWB : FnScope ["self", "one"] ["self", "one"] (defScope sNear_write_back) := ⟨rfl, rfl, rfl, by decide +kernel, rfl, by decide +kernel, by decide +kernel⟩
theorem ok_write_back (T : Tx K mg) : Ok P w K mg base 3 (He.ma K (CN K) "write_back") ["self", "one"] (spWriteBack K) := by
  obtain ⟨fdP, GP, bP⟩ := ok_put_four (P := P) (w := w) (base := base) T
  refine ok_by T.DNear_write_back scWB (fun vs H Q E h => ?_) (fun _ _ _ _ _ _ us hl => match us, hl with | [_, _], _ => rfl) (fun f cdv A outer s H vs Q E hr h => ?_)
  · obtain ⟨p, s, dx, rl, a, dxl, q, dxs, c, r, w, cs, ws, n, ch, rfl, _⟩ := h
    rfl
  · obtain ⟨p, s, dx, rl, a, dxl, q, dxs, c, r, w, cs, ws, n, ch, rfl, hp, ha, hq, hs, hc, nas, l1, l2, l3, k1, k2⟩ := h
    refine ⟨_, pss_one (ps_if (pt_val (pe_fld (pv 1) rfl)) (pss_cons (ps_expr (pe_meth (pe_fld (pv 0) rfl) T.cSlow T.mSlow_put_four GP hr bP .nil pass0 (pa_cons (pe_fld (pv 1) rfl)
      (pa_cons (pe_callTy call_tuple_of (by rfl) T.ftuple bo_tuple (pa_cons (pe_fld (pv 1) rfl) pa_nil)) pa_nil)))) (pss_one (ps_fld (pv 1) pe_bl rfl))) pss_nil), ?_⟩
    refine ⟨_, rfl, a, CL K, dxl, _, _, rfl, ha, T.cLine, T.nLine_changed, lf_ch _ _ _, _, rfl, ?_⟩
    cases ch with
    | false => exact iteF (k1 rfl)
    | true =>
      refine iteT ?_
      refine ⟨_, rfl, p, CN K, dx, _, _, rfl, hp, T.cNear, T.nNear_slow, nf_slow _ _, s, dxs, _, rfl, hs, sf_no _ _ _ (by decide +kernel) (by decide +kernel) (by decide +kernel), ?_⟩
      refine ⟨_, rfl, a, CL K, dxl, _, _, rfl, ha, T.cLine, T.nLine_number, lf_num _ _ _, ?_⟩
      refine ⟨_, rfl, a, CL K, dxl, _, _, rfl, ha, T.cLine, T.nLine_fours, lf_fours _ _ _, q, _, rfl, .inl ⟨SqL.of hq, fun tp ht => ?_⟩⟩
      have sm : Same H (upd H tp (.tup (ws.map V.int))) := fun b o e => by rw [upd_ne (ne_of_none e ht)]; exact e
      refine ⟨s, dxs, c, tp, r, w, cs, ws, n, rfl, sm _ _ hs, sm _ _ hc, upd_same, l1, l2, l3, fun c' H' f1 f2 f3 f4 => ?_⟩
      have ha' : H' a = some (.ins (CL K) dxl (lf n q true)) := f4 a _ (sm _ _ ha) nas
      have nca : c' ≠ a := fun z => by rw [z, sm _ _ ha] at f1; cases f1
      refine ⟨_, rfl, a, CL K, dxl, _, rfl, ha', T.cLine, T.nLine_changed, (by show 3 < 1000; decide), ?_⟩
      rw [lf_put_ch]
      refine k2 rfl c' _ (sm.free f1) ?_ ?_ upd_same fun b o e h1 h2 => ?_
      · rw [upd_ne nca]
        exact f2
      · rw [upd_ne nas.symm]
        exact f3
      · rw [upd_ne h2]
        exact f4 b o (sm b o e) h1
end
end RM

namespace RM
open PySem PySem.Spec PyProof.Rows L2
/-! ### a line comes -/
section
variable {K : PySem.W.Frag} {H H' : Hp} {ω ω' : Own} {t : Nat} {P : Kd → Prop}
/-- set k is another one, the rest is kept -/
theorem NearL.build {p s : Addr} {m m' : Mm} {y y' : Lay} (N : NearL K H ω t p s m y) (kp : Kp P t H H' ω ω') {k : Nat} {r' : Addr} {ls' : List Ln} {as' : List Addr}
    (hp : H' p = some (.ins (CN K) y'.dx (nf s y'.rl))) (po : ω' p = some (t, .near)) (hs : H' s = some (.ins (CS K) y'.dxs (sf y'.c y'.rd y'.wr))) (so : ω' s = some (t, .slow)) (hc : H' y'.c = some (.lst (m'.cells.map V.int))) (co : ω' y'.c = some (t, .cells))
    (hr : H' y'.rl = some (.lst (y'.rs.map V.ref))) (ro : ω' y'.rl = some (t, .rooms)) (hl : y'.rs.length = m'.rooms.length)
    (hrs : ∀ (j : Nat) (r : Addr), y'.rs[j]? = some r → (j = k ∧ r = r') ∨ (j ≠ k ∧ y.rs[j]? = some r)) (hms : ∀ (j : Nat) (ls : List Ln), m'.rooms[j]? = some ls → (j = k ∧ ls = ls') ∨ (j ≠ k ∧ m.rooms[j]? = some ls))
    (R : RoomAt K H' ω' t r' k ls' as') (hP : ∀ (j : Nat) (ls : List Ln), j ≠ k → m.rooms[j]? = some ls → P (.room j) ∧ ∀ l, l ∈ ls → P (.line l.num) ∧ P (.fours l.num)) : NearL K H' ω' t p s m' y' := by
  refine ⟨hp, po, hs, so, hc, co, hr, ro, hl, fun j r ls h1 h2 => ?_⟩
  rcases hrs j r h1 with ⟨e1, e2⟩ | ⟨e1, e2⟩
  · rcases hms j ls h2 with ⟨_, e3⟩ | ⟨e3, _⟩
    · subst e1 e2 e3
      exact ⟨as', R⟩
    · exact absurd e1 e3
  · rcases hms j ls h2 with ⟨e3, _⟩ | ⟨_, e4⟩
    · exact absurd e3 e1
    · obtain ⟨as, z⟩ := N.rm j r ls e2 e4
      obtain ⟨q1, q2⟩ := hP j ls e1 e4
      exact ⟨as, z.mono kp q1 q2⟩
/-- the sets are kept -/
theorem NearL.parts {p s : Addr} {m : Mm} {y y' : Lay} (N : NearL K H ω t p s m y) (kp : Kp P t H H' ω ω')
    (hp : H' p = some (.ins (CN K) y'.dx (nf s y'.rl))) (po : ω' p = some (t, .near)) (hs : H' s = some (.ins (CS K) y'.dxs (sf y'.c y'.rd y'.wr))) (so : ω' s = some (t, .slow)) (hc : H' y'.c = some (.lst (m.cells.map V.int))) (co : ω' y'.c = some (t, .cells))
    (hr : H' y'.rl = some (.lst (y'.rs.map V.ref))) (ro : ω' y'.rl = some (t, .rooms)) (hrs : y'.rs = y.rs)
    (hP : ∀ (j : Nat) (ls : List Ln), m.rooms[j]? = some ls → P (.room j) ∧ ∀ l, l ∈ ls → P (.line l.num) ∧ P (.fours l.num)) : NearL K H' ω' t p s m y' := by
  refine ⟨hp, po, hs, so, hc, co, hr, ro, by rw [hrs]; exact N.len, fun j r ls h1 h2 => ?_⟩
  rw [hrs] at h1
  obtain ⟨as, z⟩ := N.rm j r ls h1 h2
  obtain ⟨q1, q2⟩ := hP j ls h2
  exact ⟨as, z.mono kp q1 q2⟩
end
/-- the addresses of the other lines -/
def pickA (n : Nat) : List Addr → List Ln → List Addr
  | a :: as, l :: ls => if l.num = n then pickA n as ls else a :: pickA n as ls
  | _, _ => []
theorem pick_nil (n : Nat) (ls : List Ln) : pickA n [] ls = [] := by cases ls <;> rfl
theorem pick_take (n : Nat) : ∀ {as : List Addr} {ls : List Ln} {i : Nat} {a : Addr} {l : Ln}, as[i]? = some a → ls[i]? = some l →
    pickA n (as.take (i + 1)) (ls.take (i + 1)) = if l.num = n then pickA n (as.take i) (ls.take i) else pickA n (as.take i) (ls.take i) ++ [a]
  | [], _, _, _, _, h, _ => by simp at h
  | _ :: _, [], _, _, _, _, h => by simp at h
  | x :: as, z :: ls, 0, a, l, h, h' => by
    simp at h h'
    subst h h'
    rw [List.take_succ_cons, List.take_succ_cons, List.take_zero, List.take_zero, List.take_zero, List.take_zero]
    unfold pickA
    rw [pick_nil]
    split <;> rfl
  | x :: as, z :: ls, i + 1, a, l, h, h' => by
    have ih := pick_take n (as := as) (ls := ls) (i := i) (a := a) (l := l) (by simpa using h) (by simpa using h')
    rw [List.take_succ_cons, List.take_succ_cons, List.take_succ_cons, List.take_succ_cons]
    show (if z.num = n then _ else _) = (if l.num = n then (if z.num = n then _ else _) else (if z.num = n then _ else _) ++ [a])
    rw [ih]
    by_cases e : z.num = n
    · simp only [if_pos e]
    · simp only [if_neg e]
      split <;> rfl
theorem pick_pair {F : Addr → Ln → Prop} (n : Nat) : ∀ {as : List Addr} {ls : List Ln}, Paired F as ls → Paired F (pickA n as ls) (others ls n)
  | _, _, .nil => .nil
  | _, _, .cons (a := a) (b := l) (l₁ := as) (l₂ := ls) h t => by
    have ih := pick_pair n t
    unfold pickA others
    by_cases e : l.num = n
    · rw [if_pos e, List.filter_cons_of_neg (by simp [e])]
      exact ih
    · rw [if_neg e, List.filter_cons_of_pos (by simp [e])]
      exact .cons h ih
theorem evict_two {m : Mm} {k : Nat} {a b : Ln} (h : m.rooms[k]? = some [a, b]) : evict m k = ⟨wb m.cells b, m.rooms.set k [a]⟩ := by
  unfold evict
  rw [List.getD_eq_getElem?_getD, h]
  rfl
theorem evict_few {m : Mm} {k : Nat} {r : List Ln} (h : m.rooms[k]? = some r) (hl : r.length ≤ 1) : evict m k = m := by
  unfold evict
  rw [List.getD_eq_getElem?_getD, h]
  match r, hl with
  | [], _ => rfl
  | [a], _ => rfl
  | a :: b :: r, hl => simp at hl
theorem come_held {S L : Nat} {ws : List Int} {m : Mm} {n i : Nat} {l : Ln} (hS : 0 < S) (g : Good S L ws m) (hi : (roomOf m n)[i]? = some l) (hn : l.num = n) :
    come m n = ⟨m.cells, m.rooms.set (n % S) (l :: others (roomOf m n) n)⟩ := by
  have hm := List.mem_of_getElem? hi
  have nd := (g.two _ _ (room_some hS g n)).2
  have e : lineOf m n = some l := by
    cases q : lineOf m n with
    | none => exact absurd hn (line_none q l hm)
    | some o =>
      obtain ⟨h1, h2⟩ := line_some q
      rw [num_one nd h1 hm (h2.trans hn.symm)]
  unfold come
  rw [e, g.len]
theorem come_new {S L : Nat} {ws : List Int} {m : Mm} {n : Nat} {r1 : List Ln} (hS : 0 < S) (g : Good S L ws m) (no : ∀ l ∈ roomOf m n, l.num ≠ n) (h1 : (evict m (n % S)).rooms[n % S]? = some r1) :
    come m n = ⟨(evict m (n % S)).cells, (evict m (n % S)).rooms.set (n % S) (⟨n, four (evict m (n % S)).cells n, false⟩ :: others r1 n)⟩ := by
  have e : lineOf m n = none := by
    cases q : lineOf m n with
    | none => rfl
    | some o =>
      obtain ⟨h2, h3⟩ := line_some q
      exact absurd h3 (no o h2)
  obtain ⟨_, r2, h2, _, sub⟩ := good_evict g (room_some hS g n)
  have er : r2 = r1 := Option.some.inj (h2.symm.trans h1)
  subst er
  rw [others_none fun l hl => no l (sub l hl)]
  unfold come
  rw [e, g.len]
  show (⟨(evict m (n % S)).cells, (evict m (n % S)).rooms.set (n % S) (⟨n, four (evict m (n % S)).cells n, false⟩ :: (evict m (n % S)).rooms.getD (n % S) [])⟩ : Mm) = _
  rw [List.getD_eq_getElem?_getD, h1]
  rfl
section
variable {K : PySem.W.Frag} {H H' : Hp} {ω : Own} {t S L : Nat} {ws : List Int} {p s : Addr} {m : Mm} {y : Lay}
/-- the last line of a full set is popped; it was not changed -/
theorem evict_pop (N : NearL K H ω t p s m y) (g : Good S L ws m) {k : Nat} {r : Addr} {l0 l1 : Ln} {a0 a1 : Addr} (hr : y.rs[k]? = some r) (hk : m.rooms[k]? = some [l0, l1]) (R : RoomAt K H ω t r k [l0, l1] [a0, a1]) :
    NearL K (upd H r (.lst [V.ref a0])) ω t p s ⟨m.cells, m.rooms.set k [l0]⟩ y ∧ RoomAt K (upd H r (.lst [V.ref a0])) ω t r k [l0] [a0] ∧ LineAt K (upd H r (.lst [V.ref a0])) ω t a1 l1 := by
  have kp : Kp (fun q => q ≠ .room k) t H (upd H r (.lst [V.ref a0])) ω ω := Kp.upd _ R.ow
  have z0 : LineAt K (upd H r (.lst [V.ref a0])) ω t a0 l0 := (Paired.get (i := 0) R.ls rfl rfl).mono kp (by intro z; cases z) (by intro z; cases z)
  have z1 : LineAt K (upd H r (.lst [V.ref a0])) ω t a1 l1 := (Paired.get (i := 1) R.ls rfl rfl).mono kp (by intro z; cases z) (by intro z; cases z)
  have R' : RoomAt K (upd H r (.lst [V.ref a0])) ω t r k [l0] [a0] := ⟨R.ow, upd_same, .cons z0 .nil⟩
  refine ⟨?_, R', z1⟩
  refine N.build kp (k := k) (r' := r) (ls' := [l0]) (as' := [a0]) ?_ N.po ?_ N.so ?_ N.co ?_ N.ro ?_ ?_ ?_ R' ?_
  · exact (kp p _ _ (by intro z; cases z) N.po N.pp).1
  · exact (kp s _ _ (by intro z; cases z) N.so N.ss).1
  · exact (kp y.c _ _ (by intro z; cases z) N.co N.cc).1
  · exact (kp y.rl _ _ (by intro z; cases z) N.ro N.rr).1
  · show y.rs.length = (m.rooms.set k [l0]).length
    rw [List.length_set]
    exact N.len
  · intro j q h
    by_cases e : j = k
    · subst e
      exact .inl ⟨rfl, Option.some.inj (h.symm.trans hr)⟩
    · exact .inr ⟨e, h⟩
  · intro j q h
    rcases set_get (show (m.rooms.set k [l0])[j]? = some q from h) with ⟨e1, e2, _⟩ | ⟨e1, e2⟩
    · exact .inl ⟨e1, e2⟩
    · exact .inr ⟨e1, e2⟩
  · intro j q hj _
    exact ⟨fun z => hj (by injection z), fun l _ => ⟨(by intro z; cases z), (by intro z; cases z)⟩⟩
/-- a line that stands in no set is written back -/
theorem evict_back (N : NearL K H ω t p s m y) {l : Ln} {a dx q c' : Addr} (ha : ω a = some (t, .line l.num)) (no : ∀ (j : Nat) (r : List Ln) (o : Ln), m.rooms[j]? = some r → o ∈ r → o.num ≠ l.num) {cs : List Int}
    (f1 : H c' = none) (f2 : H' c' = some (.lst (cs.map V.int))) (f3 : H' s = some (.ins (CS K) y.dxs (sf c' y.rd (y.wr + 1)))) (f4 : H' a = some (.ins (CL K) dx (lf l.num q false))) (f5 : ∀ b o, H b = some o → b ≠ s → b ≠ a → H' b = some o) :
    NearL K H' (ownF ω c' (t, .cells)) t p s ⟨cs, m.rooms⟩ ⟨y.dx, y.rl, y.dxs, c', y.rd, y.wr + 1, y.rs⟩ ∧ Frm t H H' ω (ownF ω c' (t, .cells)) ∧ Kp (fun k => k ≠ .slow ∧ k ≠ .line l.num) t H H' ω (ownF ω c' (t, .cells)) := by
  have kp : Kp (fun k => k ≠ .slow ∧ k ≠ .line l.num) t H H' ω (ownF ω c' (t, .cells)) := Kp.mark _ (fun b k o hk h1 h2 => ⟨f5 b o h2 (ne_role h1 N.so (kd_ne hk.1)) (ne_role h1 ha (kd_ne hk.2)), h1⟩) f1
  have nsc : s ≠ c' := ne_of_none N.ss f1
  refine ⟨?_, ?_, kp⟩
  · refine ⟨?_, ?_, f3, ?_, f2, own_same, ?_, ?_, N.len, fun j r ls h1 h2 => ?_⟩
    · exact (kp p _ _ ⟨(by intro z; cases z), (by intro z; cases z)⟩ N.po N.pp).1
    · exact (kp p _ _ ⟨(by intro z; cases z), (by intro z; cases z)⟩ N.po N.pp).2
    · rw [own_ne nsc]
      exact N.so
    · exact (kp y.rl _ _ ⟨(by intro z; cases z), (by intro z; cases z)⟩ N.ro N.rr).1
    · exact (kp y.rl _ _ ⟨(by intro z; cases z), (by intro z; cases z)⟩ N.ro N.rr).2
    · obtain ⟨as, z⟩ := N.rm j r ls h1 h2
      exact ⟨as, z.mono kp ⟨(by intro z; cases z), (by intro z; cases z)⟩ fun o ho => ⟨⟨(by intro z; cases z), fun z => no j ls o h2 ho (by injection z)⟩, ⟨(by intro z; cases z), (by intro z; cases z)⟩⟩⟩
  · refine ⟨fun b o e n => f5 b o e (fun z => n .slow (by rw [z]; exact N.so)) (fun z => n (.line l.num) (by rw [z]; exact ha)), fun b o e => own_ne (ne_of_none e f1), fun b o e => ?_, fun wf b e => ?_⟩
    · by_cases h1 : b = s
      · exact ⟨_, by rw [h1]; exact f3⟩
      · by_cases h2 : b = a
        · exact ⟨_, by rw [h2]; exact f4⟩
        · exact ⟨o, f5 b o e h1 h2⟩
    · have h1 : b ≠ c' := fun z => by rw [z, f2] at e; cases e
      rw [own_ne h1]
      cases q : H b with
      | none => exact wf b q
      | some o =>
        have h2 : b ≠ s := fun z => by rw [z, f3] at e; cases e
        have h3 : b ≠ a := fun z => by rw [z, f4] at e; cases e
        rw [f5 b o q h2 h3] at e
        cases e
end
end RM

namespace RM
open PySem PySem.Spec PyProof.Rows L2
theorem others_le (r : List Ln) (n : Nat) : (others r n).length ≤ r.length := List.length_filter_le _ _
def Sets (S : Nat) : Prop := S = 1 ∨ S = 2 ∨ S = 4
theorem Sets.pos {S : Nat} (h : Sets S) : 0 < S := by
  rcases h with rfl | rfl | rfl <;> decide
theorem Sets.le {S : Nat} (h : Sets S) : S ≤ 4 := by
  rcases h with rfl | rfl | rfl <;> decide
def spComeTo (K : PySem.W.Frag) : Sp := fun vs H Q _ => ∃ (p s : Addr) (m : Mm) (ω : Own) (t S L : Nat) (ws : List Int) (a : Nat), vs = [.ref p, .int a] ∧ NearAt K H ω t p s m ∧ Sets S ∧ L ≤ 16 ∧ Good S L ws m ∧ a / 4 < L ∧
  ∀ (x : Addr) (H' : Hp) (ω' : Own) (y : Lay) (r : Addr) (l : Ln) (tl : List Ln) (as : List Addr), NearL K H' ω' t p s (come m (a / 4)) y → Frm t H H' ω ω' → y.rs[a / 4 % S]? = some r → (come m (a / 4)).rooms[a / 4 % S]? = some (l :: tl) → l.num = a / 4 →
    RoomAt K H' ω' t r (a / 4 % S) (l :: tl) (x :: as) → Q (.ref x) H'
theorem ix_nat {n j : Nat} (h : j < n) : ixN n (j : Int) = some j := by
  unfold ixN
  rw [if_pos (by omega), if_pos (by omega), Int.toNat_natCast]
theorem two_of {α : Type} {l : List α} (h : l.length = 2) : ∃ a b, l = [a, b] := by
  match l, h with
  | [a, b], _ => exact ⟨a, b, rfl⟩
theorem same_new {H : Hp} {a : Addr} (o : HO) (h : H a = none) : Same H (upd H a o) := fun b u e => by
  rw [upd_ne (ne_of_none e h)]
  exact e
section
variable {P : Program} {w : World} {K : PySem.W.Frag} {mg : Str → Option Value} {base : Heap}
theorem scCT : FnScope ["self", "address", "place", "room", "found", "one"] ["self", "address"] (defScope sNear_come_to) := ⟨rfl, rfl, rfl, by decide +kernel, rfl, by decide +kernel, by decide +kernel⟩
theorem ok_come_to (T : Tx K mg) : Ok P w K mg base 4 (He.ma K (CN K) "come_to") ["self", "address"] (spComeTo K) := by
  obtain ⟨tI, hI⟩ := T.iIN_LINE
  obtain ⟨tR, hR⟩ := T.iROOM
  obtain ⟨fdL, GL, bL⟩ := ok_line_of (P := P) (w := w) (base := base) T
  obtain ⟨fdW, GW, bW⟩ := ok_write_back (P := P) (w := w) (base := base) T
  obtain ⟨fdF, GF, bF⟩ := ok_four (P := P) (w := w) (base := base) T
  obtain ⟨fdI, GI, bI⟩ := ok_LineInit (P := P) (w := w) (base := base) T
  refine ok_by T.DNear_come_to scCT (fun vs H Q E h => ?_) (fun _ _ _ _ _ _ us hl => match us, hl with | [_, _], _ => rfl) (fun f cdv A outer sh H vs Q E hr h => ?_)
  · obtain ⟨p, s, m, ω, t, S, L, ws, a, rfl, _⟩ := h
    rfl
  · obtain ⟨p, s, m, ω, t, S, L, ws, a, rfl, ⟨y, N⟩, hS, hL, g, ha, k0⟩ := h
    have hr2 : Room 2 _ := hr.mono (by decide)
    refine ⟨_, pss_cons (ps_set (i := 2) scCT.nd rfl (Or.inl rfl) (pe_op op_mod (pe_op op_fdiv (pv 1) (pe_glob (v := .int 4) rfl hI ⟨tI, rfl⟩)) (pe_callB call_len_seq (by rfl) T.flen bo_len (pa_cons (pe_fld (pv 0) rfl) pa_nil))))
      (pss_cons (ps_set (i := 3) scCT.nd rfl (Or.inl rfl) (pe_ix ix_list (pe_fld (pv 0) rfl) (pv 2) (fun _ _ => rfl)))
      (Evl.pss_cut (ps_set (i := 4) scCT.nd rfl (Or.inr rfl) (pe_meth (pv 0) T.cNear T.mNear_line_of GL hr2 bL .nil pass0 (pa_cons (pv 1) pa_nil)))
      (Evl.pss_cut (ps_if (pt_cmpR op_isN (pv 4) pe_non (nomark _))
        (Evl.pss_cut (ps_if (pt_cmpR op_eq (pe_callB call_len_seq (by rfl) T.flen bo_len (pa_cons (pv 3) pa_nil)) (pe_glob (v := .int 2) rfl hR ⟨tR, rfl⟩) (nomark _))
            (pss_one (ps_expr (pe_meth (pv 0) T.cNear T.mNear_write_back GW hr bW .nil pass0 (pa_cons (pe_bm0 PySem.F.plainAttrs_list PySem.F.slot_list_pop PySem.F.type_list_pop mt_pop (pv 3)) pa_nil)))) pss_nil)
          (pss_one (ps_set (i := 4) scCT.nd rfl (Or.inr rfl) (pe_make ⟨T.kLine.makes, T.kLine.init, T.kLine.fn, T.kLine.kp⟩ GI hr2 rfl T.gLine bI .nil pass0 (pa_cons (pe_op op_fdiv (pv 1) (pe_glob (v := .int 4) rfl hI ⟨tI, rfl⟩))
            (pa_cons (pe_meth (pe_fld (pv 0) rfl) T.cSlow T.mSlow_four GF hr2 bF .nil pass0 (pa_cons (pe_op op_fdiv (pv 1) (pe_glob (v := .int 4) rfl hI ⟨tI, rfl⟩)) pa_nil)) (pa_cons pe_bl pa_nil)))))))
        pss_nil)
      (pss_cons (ps_asg (pe_op op_cat (pe_lst (pa_cons (pv 4) pa_nil))
          (pe_lc (own := [("one", 5)]) (g := gName 5) (tt := tTest (tOp rNe (tFld K (tVar 5) "number") (tFld K (tVar 4) "number"))) (te := tVar 5) rfl scCT.nd (pi_list (pv 3)) (blkOk_by (N := ["self", "address", "place", "room", "found", "one"]) (sc := defScope sNear_come_to) (by decide +kernel))
            (fun _ _ _ _ _ => pg_name (i := 5) scCT.nd rfl (Or.inl rfl)) (fun _ _ _ _ _ => pts_one (pt_cmpR op_ne (pe_fld (pv 5) rfl) (pe_fld (pv 4) rfl) (nomark _))) (fun _ _ _ _ _ => pv 5)))
          (pg_sub (pe_fld (pv 0) rfl) (pv 2) set_list))
      (pss_one (ps_ret (pv 4))))))), ?_⟩
    have hpos := hS.pos
    have hlen : y.rs.length = S := by rw [N.len, g.len]
    obtain ⟨n, hn⟩ : ∃ n, n = a / 4 := ⟨_, rfl⟩
    rw [← hn] at ha k0
    have hk := room_some hpos g n
    have hkS : n % S < S := Nat.mod_lt _ hpos
    obtain ⟨r, hr'⟩ : ∃ r, y.rs[n % S]? = some r := ⟨_, List.getElem?_eq_getElem (by rw [hlen]; exact hkS)⟩
    obtain ⟨as, R⟩ := N.rm _ _ _ hr' hk
    have e4 : (a : Int) / 4 = (n : Int) := by omega
    have e5 : (a : Int) / 4 % ((y.rs.map V.ref).length : Int) = ((n % S : Nat) : Int) := by
      rw [List.length_map, hlen, e4]
      omega
    -- place, room
    refine ⟨_, rfl, _, _, rfl, rfl, ⟨by decide, by decide⟩, _, rfl, p, CN K, y.dx, _, _, rfl, N.pp, T.cNear, T.nNear_rooms, nf_rooms _ _, y.rl, _, rfl, .inl (SqL.of N.rr), _, _, rfl, rfl, (by rw [List.length_map]; omega), ?_⟩
    refine ⟨_, rfl, p, CN K, y.dx, _, _, rfl, N.pp, T.cNear, T.nNear_rooms, nf_rooms _ _, _, rfl, y.rl, _, _, _, rfl, rfl, SqL.of N.rr, at_of (j := n % S) (v := V.ref r) e5 (by rw [List.getElem?_map, hr']; rfl), ?_⟩
    -- found
    refine ⟨fun σ' H' => H' = H ∧ ∃ v : V, σ' = [some (.ref p), some (.int a), some (.int ((n % S : Nat) : Int)), some (.ref r), some v, none] ∧
      ((v = .non ∧ ∀ l ∈ roomOf m n, l.num ≠ n) ∨ ∃ (i : Nat) (x : Addr) (l : Ln), v = .ref x ∧ as[i]? = some x ∧ (roomOf m n)[i]? = some l ∧ l.num = n), ?_, ?_⟩
    · refine ⟨_, rfl, p, y.dx, _, rfl, N.pp, nf_no _ _ (by decide +kernel) (by decide +kernel), _, rfl, p, s, y.dx, y.rl, r, y.rs, as, roomOf m n, a, ω, t, n % S, rfl, N.pp, N.rr, (by rw [← hn, hlen]; exact hr'), R, fun no => ?_, fun i x l h1 h2 h3 => ?_⟩
      · refine ⟨rfl, .non, ?_, .inl ⟨rfl, fun l hl z => no l hl (z.trans hn)⟩⟩
        show [some (V.ref p), some (V.int a), some (V.int ((a : Int) / 4 % ((y.rs.map V.ref).length : Int))), some (V.ref r), some V.non, none] = _
        rw [e5]
      · refine ⟨rfl, .ref x, ?_, .inr ⟨i, x, l, rfl, h1, h2, by rw [hn]; exact h3⟩⟩
        show [some (V.ref p), some (V.int a), some (V.int ((a : Int) / 4 % ((y.rs.map V.ref).length : Int))), some (V.ref r), some (V.ref x), none] = _
        rw [e5]
    rintro σ1 H1 ⟨rfl, v, rfl, hv⟩
    refine ⟨fun σ' H' => ∃ (x : Addr) (l : Ln) (ω1 : Own) (m1 : Mm) (y1 : Lay) (ls1 : List Ln) (as1 : List Addr), σ' = [some (.ref p), some (.int a), some (.int ((n % S : Nat) : Int)), some (.ref r), some (.ref x), none] ∧
      NearL K H' ω1 t p s m1 y1 ∧ y1.rs[n % S]? = some r ∧ m1.rooms[n % S]? = some ls1 ∧ RoomAt K H' ω1 t r (n % S) ls1 as1 ∧ LineAt K H' ω1 t x l ∧ l.num = n ∧ come m n = ⟨m1.cells, m1.rooms.set (n % S) (l :: others ls1 n)⟩ ∧
      Frm t H1 H' ω ω1 ∧ m1.rooms.length = S ∧ ls1.length ≤ 2, ?_, ?_⟩
    · refine ⟨_, rfl, rfl, _, rfl, ?_⟩
      rcases hv with ⟨rfl, no⟩ | ⟨i, x, l, rfl, h1, h2, h3⟩
      · refine iteD rfl ?_
        refine ⟨fun σ' H' => σ' = [some (.ref p), some (.int a), some (.int ((n % S : Nat) : Int)), some (.ref r), some .non, none] ∧ ∃ (ω1 : Own) (y1 : Lay) (ls1 : List Ln) (as1 : List Addr),
          NearL K H' ω1 t p s (evict m (n % S)) y1 ∧ y1.rs[n % S]? = some r ∧ (evict m (n % S)).rooms[n % S]? = some ls1 ∧ RoomAt K H' ω1 t r (n % S) ls1 as1 ∧ Frm t H1 H' ω ω1, ?_, ?_⟩
        · refine ⟨_, rfl, r, _, rfl, .inl (SqL.of R.at_), rfl, _, rfl, ?_⟩
          have el : as.length = (roomOf m n).length := Paired.length R.ls
          by_cases e2 : (roomOf m n).length = 2
          · refine iteD (by rw [List.length_map, el, e2]; rfl) ?_
            obtain ⟨l0, l1, els⟩ := two_of e2
            obtain ⟨a0, a1, eas⟩ := two_of (el.trans e2)
            rw [els] at hk R
            subst eas
            obtain ⟨N1, R1, ow1, dxl, q, b1, b2, b3⟩ := evict_pop N g hr' hk R
            refine ⟨_, rfl, p, y.dx, _, rfl, N.pp, nf_no _ _ (by decide +kernel) (by decide +kernel), _, rfl, .inl ⟨rfl, _, SqL.of R.at_⟩, r, _, V.ref a1, rfl, rfl, R.at_, rfl, ?_⟩
            obtain ⟨c1, c2, c3⟩ := g.at_ _ _ l1 hk (by simp)
            have cw := ws_len g hk (l := l1) (by simp)
            have hno : ∀ (j : Nat) (q : List Ln) (o : Ln), (m.rooms.set (n % S) [l0])[j]? = some q → o ∈ q → o.num ≠ l1.num := fun j q o hq ho z => by
              rcases set_get hq with ⟨rfl, rfl, _⟩ | ⟨hj, hq⟩
              · have eo : o = l0 := by simpa using ho
                have nd := (g.two _ _ hk).2
                rw [eo] at z
                simp [z] at nd
              · have := (g.at_ j q o hq ho).1
                rw [z] at this
                omega
            refine ⟨p, s, y.dx, y.rl, a1, dxl, q, y.dxs, y.c, y.rd, y.wr, m.cells, l1.ws, l1.num, l1.ch, rfl, N1.pp, b1, b3, N1.ss, N1.cc, ne_role ow1 N1.so (kd_ne (by intro z; cases z)), (by rw [g.cl]; omega), (by rw [g.cl]; omega), (by rw [cw]; omega), fun hc => ?_, fun hc c' H' f1 f2 f3 f4 f5 => ?_⟩
            · have ev : evict m (n % S) = ⟨m.cells, m.rooms.set (n % S) [l0]⟩ := by
                rw [evict_two hk]
                unfold wb
                rw [hc]
                rfl
              rw [ev]
              exact ⟨rfl, ω, y, [l0], [a0], N1, hr', set_self (by rw [g.len]; exact hkS), R1, Frm.upd _ R.ow⟩
            · have ev : evict m (n % S) = ⟨putFour m.cells l1.num l1.ws, m.rooms.set (n % S) [l0]⟩ := by
                rw [evict_two hk]
                unfold wb
                rw [hc]
                rfl
              obtain ⟨N2, F2, kp2⟩ := evict_back N1 (l := l1) ow1 hno f1 f2 f3 f4 f5
              rw [ev]
              refine ⟨rfl, _, _, [l0], [a0], N2, hr', set_self (by rw [g.len]; exact hkS), R1.mono kp2 ⟨(by intro z; cases z), (by intro z; cases z)⟩ (fun o ho => ⟨⟨(by intro z; cases z), fun z => ?_⟩, ⟨(by intro z; cases z), (by intro z; cases z)⟩⟩), (Frm.upd _ R.ow).trans F2⟩
              exact hno _ _ o (set_self (by rw [g.len]; exact hkS)) ho (by injection z)
          · refine iteDF (fun z => e2 ?_) ?_
            · injection z with z1
              rw [List.length_map, el] at z1
              omega
            · have ev : evict m (n % S) = m := evict_few hk (by have := (g.two _ _ hk).1; omega)
              refine ⟨rfl, ω, y, roomOf m n, as, ?_, hr', ?_, R, Frm.refl _ _ _⟩
              · rw [ev]
                exact N
              · rw [ev]
                exact hk
        rintro σ2 H2 ⟨rfl, ω1, y1, ls1, as1, N1, hr1, hk1, R1, F1⟩
        obtain ⟨g1, ls1', hk1', h1l, sub1⟩ := good_evict g hk
        have e11 : ls1' = ls1 := Option.some.inj (hk1'.symm.trans hk1)
        subst e11
        -- found = Line(..)
        refine ⟨_, rfl, _, _, rfl, rfl, ⟨by decide, by decide⟩, _, rfl, p, CN K, y1.dx, _, _, rfl, N1.pp, T.cNear, T.nNear_slow, nf_slow _ _, s, y1.dxs, _, rfl, N1.ss, sf_no _ _ _ (by decide +kernel) (by decide +kernel) (by decide +kernel),
          _, rfl, _, _, rfl, rfl, ⟨by decide, by decide⟩, s, y1.dxs, y1.c, y1.rd, y1.wr, (evict m (n % S)).cells, n, ?_, N1.ss, N1.cc, (by rw [g1.cl]; omega), fun q H3 f1 f2 f3 => fun x dx nx nd nxd => ⟨x, q, dx, _, false, (four (evict m (n % S)).cells n).map V.int, rfl, upd_same, ?_, fun f H4 g1 g2 g3 g4 => ⟨rfl, ?_⟩⟩⟩
        · show [V.ref s, V.int ((a : Int) / 4)] = _
          rw [e4]
        · rw [upd_ne (ne_of_none f1 nx), upd_ne (ne_of_none f1 nd)]
          exact f1
        have s34 : Same H3 H4 := Same.made nx nd g4
        have g3' : H4 x = some (.ins (CL K) dx (lf (n : Int) f false)) := by rw [← e4]; exact g3
        have fr : ∀ b, H3 b = none → H2 b = none := fun b e => by
          cases z : H2 b with
          | none => rfl
          | some o =>
            by_cases hb : b = s
            · rw [hb, f2] at e
              cases e
            · rw [f3 b o z hb] at e
              cases e
        have nfx : f ≠ x := fun z => by rw [z, upd_same] at g1; cases g1
        have nfd : f ≠ dx := fun z => by rw [z, upd_ne nxd, upd_same] at g1; cases g1
        have f3n : H3 f = none := by rw [upd_ne nfx, upd_ne nfd] at g1; exact g1
        have kp4 : Kp (fun k => k ≠ .slow) t H2 H4 ω1 (ownF (ownF ω1 x (t, .line n)) f (t, .fours n)) := Kp.mark _ (Kp.mark _ ((Kp.but N1.so f3).trans (Kp.same s34)) (fr x nx)) (fr f f3n)
        have F4 : Frm t H2 H4 ω1 (ownF (ownF ω1 x (t, .line n)) f (t, .fours n)) := Frm.mark _ (Frm.mark _ ((Frm.but N1.so ⟨_, f2⟩ f3).trans (Frm.same s34)) (fr x nx) ⟨_, g3⟩) (fr f f3n) ⟨_, g2⟩
        have N4 : NearL K H4 (ownF (ownF ω1 x (t, .line n)) f (t, .fours n)) t p s (evict m (n % S)) ⟨y1.dx, y1.rl, y1.dxs, y1.c, y1.rd + 1, y1.wr, y1.rs⟩ := by
          refine N1.parts kp4 ?_ ?_ (s34 _ _ f2) ?_ ?_ ?_ ?_ ?_ rfl fun j ls _ => ⟨(by intro z; cases z), fun o _ => ⟨(by intro z; cases z), (by intro z; cases z)⟩⟩
          · exact (kp4 p _ _ (by intro z; cases z) N1.po N1.pp).1
          · exact (kp4 p _ _ (by intro z; cases z) N1.po N1.pp).2
          · rw [own_ne (ne_of_none N1.ss (fr f f3n)), own_ne (ne_of_none N1.ss (fr x nx))]
            exact N1.so
          · exact (kp4 y1.c _ _ (by intro z; cases z) N1.co N1.cc).1
          · exact (kp4 y1.c _ _ (by intro z; cases z) N1.co N1.cc).2
          · exact (kp4 y1.rl _ _ (by intro z; cases z) N1.ro N1.rr).1
          · exact (kp4 y1.rl _ _ (by intro z; cases z) N1.ro N1.rr).2
        refine ⟨x, ⟨n, four (evict m (n % S)).cells n, false⟩, _, evict m (n % S), _, ls1', as1, rfl, N4, hr1, hk1, R1.mono kp4 (by intro z; cases z) (fun o _ => ⟨(by intro z; cases z), (by intro z; cases z)⟩), ?_, rfl, come_new hpos g no hk1, F1.trans F4, (by rw [evict_len]; exact g.len), by omega⟩
        refine ⟨?_, dx, f, g3', own_same, g2⟩
        rw [own_ne nfx.symm]
        exact own_same
      · refine iteDF (by intro z; cases z) ?_
        exact ⟨x, l, ω, m, y, roomOf m n, as, rfl, N, hr', hk, R, Paired.get R.ls h1 h2, h3, come_held hpos g h2 h3, Frm.refl _ _ _, g.len, (g.two _ _ hk).1⟩
    rintro σ3 H3 ⟨x, l, ω1, m1, y1, ls1, as1, rfl, N1, hr1, hk1, R1, Lx, hln, ec, F1, hm1, hl2⟩
    obtain ⟨owx, dxx, qx, hx1, hx2, hx3⟩ := id Lx
    -- [found]
    refine ⟨_, rfl, (by show 1 ≤ sizeLine; decide), fun l1 h1 => ?_⟩
    have s3 : Same H3 (upd H3 l1 (.lst [V.ref x])) := same_new _ h1
    -- the others
    refine ⟨_, rfl, r, rfl, ⟨_, SqL.of (s3 _ _ R1.at_)⟩, fun D hD => lc_list (K := K) (a := r) (xs := as1.map V.ref) (fun i H4 => Same (upd H3 l1 (.lst [V.ref x])) H4 ∧ H4 D = some (.lst ((pickA n (as1.take i) (ls1.take i)).map V.ref))) ?_ (fun i H4 _ ⟨sm, _⟩ => SqL.of (sm _ _ (s3 _ _ R1.at_))) ?_ ?_⟩
    · refine ⟨same_new _ hD, ?_⟩
      rw [upd_same, List.take_zero, pick_nil]
      rfl
    · rintro i v H4 hi ⟨sm, hd⟩
      obtain ⟨b, hb, rfl⟩ : ∃ b, as1[i]? = some b ∧ v = V.ref b := by
        rw [List.getElem?_map] at hi
        cases e : as1[i]? with
        | none =>
          rw [e] at hi
          cases hi
        | some b =>
          rw [e] at hi
          exact ⟨b, rfl, (Option.some.inj hi).symm⟩
      obtain ⟨l', hl'⟩ := Paired.left R1.ls hb
      obtain ⟨_, dxb, qb, hb1, _, _⟩ := Paired.get R1.ls hb hl'
      refine ⟨rfl, _, rfl, b, CL K, dxb, _, _, rfl, sm _ _ (s3 _ _ hb1), T.cLine, T.nLine_number, lf_num _ _ _, _, rfl, x, CL K, dxx, _, _, rfl, sm _ _ (s3 _ _ hx1), T.cLine, T.nLine_number, lf_num _ _ _, rfl, _, rfl, ?_⟩
      have pk := pick_take n hb hl'
      by_cases e : l'.num = n
      · refine iteNS (by rw [e, hln]) ⟨sm, ?_⟩
        rw [pk, if_pos e]
        exact hd
      · refine iteNT (fun z => e ?_) ⟨_, rfl, _, hd, ?_, fun c o ec => ?_, ?_⟩
        · injection z with z1
          omega
        · rw [List.length_map]
          have hle : ∀ (as : List Addr) (ls : List Ln), (pickA n as ls).length ≤ ls.length := by
            intro as
            induction as with
            | nil => intro ls; rw [pick_nil]; exact Nat.zero_le _
            | cons a as ih =>
              intro ls
              cases ls with
              | nil => exact Nat.zero_le _
              | cons z ls =>
                unfold pickA
                split
                · have := ih ls
                  rw [List.length_cons]
                  omega
                · have := ih ls
                  rw [List.length_cons, List.length_cons]
                  omega
          have h5 := hle (as1.take i) (ls1.take i)
          have h6 : (ls1.take i).length ≤ 2 := by rw [List.length_take]; omega
          exact Nat.lt_of_le_of_lt (Nat.le_trans h5 h6) (by decide)
        · rw [upd_ne (ne_of_none ec hD)]
          exact sm c o ec
        · rw [upd_same, pk, if_neg e, List.map_append]
          rfl
    · rintro H4 ⟨sm, hd⟩
      have el1 : as1.length = ls1.length := Paired.length R1.ls
      rw [List.length_map, List.take_of_length_le (Nat.le_refl _), List.take_of_length_le (by omega)] at hd
      have pp := pick_pair n R1.ls
      have pl := Paired.length pp
      have po := others_le ls1 n
      refine ⟨l1, D, [V.ref x], _, rfl, rfl, sm _ _ upd_same, hd, (by rw [List.length_map, pl]; exact Nat.le_trans (show _ ≤ 3 by simp only [List.length_cons, List.length_nil]; omega) (by decide)), fun p3 n3 => ?_⟩
      have s35 : Same H3 (upd H4 p3 (.lst ([V.ref x] ++ (pickA n as1 ls1).map V.ref))) := (s3.trans sm).trans (same_new _ n3)
      have n3' : H3 p3 = none := (s3.trans sm).free n3
      refine ⟨_, rfl, p, CN K, y1.dx, _, _, rfl, s35 _ _ N1.pp, T.cNear, T.nNear_rooms, nf_rooms _ _, _, rfl, y1.rl, _, _, n % S, rfl, rfl, s35 _ _ N1.rr, ix_nat (by rw [List.length_map, N1.len, hm1]; exact hkS), ?_⟩
      refine ⟨_, rfl, ?_⟩
      have n53 : y1.rl ≠ p3 := ne_of_none N1.rr n3'
      have kp5 : Kp (fun k => k ≠ .rooms) t H3 (upd (upd H4 p3 (.lst ([V.ref x] ++ (pickA n as1 ls1).map V.ref))) y1.rl (.lst ((y1.rs.map V.ref).set (n % S) (V.ref p3)))) ω1 (ownF ω1 p3 (t, .room (n % S))) :=
        Kp.mark _ ((Kp.same s35).trans (Kp.upd _ N1.ro)) n3'
      have F5 : Frm t H3 (upd (upd H4 p3 (.lst ([V.ref x] ++ (pickA n as1 ls1).map V.ref))) y1.rl (.lst ((y1.rs.map V.ref).set (n % S) (V.ref p3)))) ω1 (ownF ω1 p3 (t, .room (n % S))) :=
        Frm.mark _ ((Frm.same s35).trans (Frm.upd _ N1.ro)) n3' ⟨_, by rw [upd_ne n53.symm]; exact upd_same⟩
      have hP : ∀ o : Ln, (Kd.line o.num ≠ Kd.rooms) ∧ (Kd.fours o.num ≠ Kd.rooms) := fun o => ⟨(by intro z; cases z), (by intro z; cases z)⟩
      have R5 : RoomAt K (upd (upd H4 p3 (.lst ([V.ref x] ++ (pickA n as1 ls1).map V.ref))) y1.rl (.lst ((y1.rs.map V.ref).set (n % S) (V.ref p3)))) (ownF ω1 p3 (t, .room (n % S))) t p3 (n % S) (l :: others ls1 n) (x :: pickA n as1 ls1) := by
        refine ⟨own_same, ?_, .cons (Lx.mono kp5 (hP l).1 (hP l).2) (Paired.mem2 pp fun b o _ z => z.mono kp5 (hP o).1 (hP o).2)⟩
        rw [upd_ne n53.symm, upd_same]
        rfl
      refine k0 x _ _ ⟨y1.dx, y1.rl, y1.dxs, y1.c, y1.rd, y1.wr, y1.rs.set (n % S) p3⟩ p3 l (others ls1 n) (pickA n as1 ls1) ?_ (F1.trans F5) (set_self (by rw [N1.len, hm1]; exact hkS)) ?_ hln R5
      · rw [ec]
        refine N1.build kp5 (k := n % S) (r' := p3) (ls' := l :: others ls1 n) (as' := x :: pickA n as1 ls1) ?_ ?_ ?_ ?_ ?_ ?_ ?_ ?_ ?_ (fun j q h => ?_) (fun j q h => ?_) R5 (fun j q _ _ => ⟨(by intro z; cases z), fun o _ => hP o⟩)
        · exact (kp5 p _ _ (by intro z; cases z) N1.po N1.pp).1
        · exact (kp5 p _ _ (by intro z; cases z) N1.po N1.pp).2
        · exact (kp5 s _ _ (by intro z; cases z) N1.so N1.ss).1
        · exact (kp5 s _ _ (by intro z; cases z) N1.so N1.ss).2
        · exact (kp5 y1.c _ _ (by intro z; cases z) N1.co N1.cc).1
        · exact (kp5 y1.c _ _ (by intro z; cases z) N1.co N1.cc).2
        · rw [upd_same, List.map_set]
        · rw [own_ne n53]
          exact N1.ro
        · show (y1.rs.set (n % S) p3).length = (m1.rooms.set (n % S) (l :: others ls1 n)).length
          rw [List.length_set, List.length_set]
          exact N1.len
        · rcases set_get (show (y1.rs.set (n % S) p3)[j]? = some q from h) with ⟨e1, e2, _⟩ | ⟨e1, e2⟩
          · exact .inl ⟨e1, e2⟩
          · exact .inr ⟨e1, e2⟩
        · rcases set_get (show (m1.rooms.set (n % S) (l :: others ls1 n))[j]? = some q from h) with ⟨e1, e2, _⟩ | ⟨e1, e2⟩
          · exact .inl ⟨e1, e2⟩
          · exact .inr ⟨e1, e2⟩
      · rw [ec]
        exact set_self (by rw [hm1]; exact hkS)
end
end RM

namespace RM
open PySem PySem.Spec PyProof.Rows L2
/-! ### the near memory, second part: get, put, cost, look -/
def spGet (K : PySem.W.Frag) : Sp := fun vs H Q _ => ∃ (p s : Addr) (m : Mm) (ω : Own) (t S L : Nat) (ws : List Int) (a : Nat), vs = [.ref p, .int a] ∧ NearAt K H ω t p s m ∧ Sets S ∧ L ≤ 16 ∧ Good S L ws m ∧ a < 4 * L ∧
  ∀ (v : Int) (H' : Hp) (ω' : Own), ws[a]? = some v → NearAt K H' ω' t p s (come m (a / 4)) → Frm t H H' ω ω' → Q (.int v) H'
def spPut (K : PySem.W.Frag) : Sp := fun vs H Q _ => ∃ (p s : Addr) (m : Mm) (ω : Own) (t S L : Nat) (ws : List Int) (a : Nat) (v : Int), vs = [.ref p, .int a, .int v] ∧ NearAt K H ω t p s m ∧ Sets S ∧ L ≤ 16 ∧ Good S L ws m ∧ a < 4 * L ∧
  ∀ (H' : Hp) (ω' : Own), NearAt K H' ω' t p s (putAt (come m (a / 4)) a v) → Frm t H H' ω ω' → Q .non H'
def spCost (K : PySem.W.Frag) : Sp := fun vs H Q _ => ∃ (p s : Addr) (m : Mm) (ω : Own) (t S L : Nat) (ws : List Int) (a : Nat), vs = [.ref p, .int a] ∧ NearAt K H ω t p s m ∧ Sets S ∧ L ≤ 16 ∧ Good S L ws m ∧ a < 4 * L ∧
  ((∃ l ∈ roomOf m (a / 4), l.num = a / 4) → Q (.int 1) H) ∧ ((∀ l ∈ roomOf m (a / 4), l.num ≠ a / 4) → ∀ z, Q (.int z) H)
def spLook (K : PySem.W.Frag) : Sp := fun vs H Q _ => ∃ (p s : Addr) (m : Mm) (ω : Own) (t S L : Nat) (ws : List Int) (a : Nat), vs = [.ref p, .int a] ∧ NearAt K H ω t p s m ∧ Sets S ∧ L ≤ 16 ∧ Good S L ws m ∧ a < 4 * L ∧
  ∀ (v : Int) (H' : Hp), ws[a]? = some v → Same H H' → Q (.int v) H'
section
variable {P : Program} {w : World} {K : PySem.W.Frag} {mg : Str → Option Value} {base : Heap}
theorem scGe : FnScope ["self", "address"] ["self", "address"] (defScope sNear_get) := ⟨rfl, rfl, rfl, by decide +kernel, rfl, by decide +kernel, by decide +kernel⟩
theorem ok_get (T : Tx K mg) : Ok P w K mg base 5 (He.ma K (CN K) "get") ["self", "address"] (spGet K) := by
  obtain ⟨tI, hI⟩ := T.iIN_LINE
  obtain ⟨fdA, GA, bA⟩ := ok_need_address (P := P) (w := w) (base := base) T
  obtain ⟨fdC, GC, bC⟩ := ok_come_to (P := P) (w := w) (base := base) T
  refine ok_by T.DNear_get scGe (fun vs H Q E h => ?_) (fun _ _ _ _ _ _ us hl => match us, hl with | [_, _], _ => rfl) (fun f cdv A outer sh H vs Q E hr h => ?_)
  · obtain ⟨p, s, m, ω, t, S, L, ws, a, rfl, _⟩ := h
    rfl
  · obtain ⟨p, s, m, ω, t, S, L, ws, a, rfl, ⟨y, N⟩, hS, hL, g, ha, k⟩ := h
    have hr2 : Room 2 _ := hr.mono (by decide)
    refine ⟨_, pss_cons (ps_expr (pe_meth (pv 0) T.cNear T.mNear_need_address GA hr2 bA .nil pass0 (pa_cons (pv 1) pa_nil)))
      (pss_one (ps_ret (pe_ix ix_list (pe_fld (pe_meth (pv 0) T.cNear T.mNear_come_to GC hr bC .nil pass0 (pa_cons (pv 1) pa_nil)) rfl) (pe_op op_mod (pv 1) (pe_glob (v := .int 4) rfl hI ⟨tI, rfl⟩)) (fun _ _ => rfl)))), ?_⟩
    refine ⟨_, rfl, p, y.dx, _, rfl, N.pp, nf_no _ _ (by decide +kernel) (by decide +kernel), _, rfl, p, s, y.dx, y.dxs, y.rl, y.c, y.rd, y.wr, _, a, rfl, N.pp, N.ss, N.cc, (by rw [List.length_map, g.cl]; exact ha), ?_⟩
    refine ⟨_, rfl, p, y.dx, _, rfl, N.pp, nf_no _ _ (by decide +kernel) (by decide +kernel), _, rfl, p, s, m, ω, t, S, L, ws, a, rfl, ⟨y, N⟩, hS, hL, g, (by omega), fun x H' ω' y' r l tl as N' F h1 h2 h3 R => ?_⟩
    obtain ⟨g', _⟩ := good_come hS.pos g (n := a / 4) (by omega)
    obtain ⟨_, dxl, q, b1, b2, b3⟩ := Paired.get (i := 0) R.ls rfl rfl
    obtain ⟨v, hv⟩ : ∃ v, ws[a]? = some v := ⟨_, List.getElem?_eq_getElem (by rw [g.wl]; exact ha)⟩
    have hw : l.ws[a % 4]? = some v := by
      rw [(g'.at_ _ _ l h2 List.mem_cons_self).2.2, h3, four_at]
      exact hv
    refine ⟨x, CL K, dxl, _, _, rfl, b1, T.cLine, T.nLine_fours, lf_fours _ _ _, _, rfl, _, _, rfl, rfl, (by show (0 : Int) < 4; decide), ?_⟩
    exact ⟨q, _, _, V.int v, rfl, rfl, SqL.of b3, at_of (j := a % 4) (by omega) (by rw [List.getElem?_map, hw]; rfl), k v H' ω' hv ⟨y', N'⟩ F⟩
theorem scPu : FnScope ["self", "address", "word", "found"] ["self", "address", "word"] (defScope sNear_put) := ⟨rfl, rfl, rfl, by decide +kernel, rfl, by decide +kernel, by decide +kernel⟩
theorem ok_put (T : Tx K mg) : Ok P w K mg base 5 (He.ma K (CN K) "put") ["self", "address", "word"] (spPut K) := by
  obtain ⟨tI, hI⟩ := T.iIN_LINE
  obtain ⟨fdA, GA, bA⟩ := ok_need_address (P := P) (w := w) (base := base) T
  obtain ⟨fdC, GC, bC⟩ := ok_come_to (P := P) (w := w) (base := base) T
  refine ok_by T.DNear_put scPu (fun vs H Q E h => ?_) (fun _ _ _ _ _ _ us hl => match us, hl with | [_, _, _], _ => rfl) (fun f cdv A outer sh H vs Q E hr h => ?_)
  · obtain ⟨p, s, m, ω, t, S, L, ws, a, v, rfl, _⟩ := h
    rfl
  · obtain ⟨p, s, m, ω, t, S, L, ws, a, v, rfl, ⟨y, N⟩, hS, hL, g, ha, k⟩ := h
    have hr2 : Room 2 _ := hr.mono (by decide)
    refine ⟨_, pss_cons (ps_expr (pe_meth (pv 0) T.cNear T.mNear_need_address GA hr2 bA .nil pass0 (pa_cons (pv 1) pa_nil)))
      (pss_cons (ps_set (i := 3) scPu.nd rfl (Or.inl rfl) (pe_meth (pv 0) T.cNear T.mNear_come_to GC hr bC .nil pass0 (pa_cons (pv 1) pa_nil)))
      (pss_cons (ps_asg (pv 2) (pg_sub (pe_fld (pv 3) rfl) (pe_op op_mod (pv 1) (pe_glob (v := .int 4) rfl hI ⟨tI, rfl⟩)) set_list))
      (pss_one (ps_fld (pv 3) pe_bl rfl)))), ?_⟩
    refine ⟨_, rfl, p, y.dx, _, rfl, N.pp, nf_no _ _ (by decide +kernel) (by decide +kernel), _, rfl, p, s, y.dx, y.dxs, y.rl, y.c, y.rd, y.wr, _, a, rfl, N.pp, N.ss, N.cc, (by rw [List.length_map, g.cl]; exact ha), ?_⟩
    refine ⟨_, rfl, p, y.dx, _, rfl, N.pp, nf_no _ _ (by decide +kernel) (by decide +kernel), _, rfl, p, s, m, ω, t, S, L, ws, a, rfl, ⟨y, N⟩, hS, hL, g, (by omega), fun x H' ω' y' r l tl as N' F h1 h2 h3 R => ?_⟩
    obtain ⟨g', _⟩ := good_come hS.pos g (n := a / 4) (by omega)
    generalize come m (a / 4) = m' at N' h2 g' k
    obtain ⟨ox, dxl, q, b1, b2, b3⟩ := Paired.get (i := 0) R.ls rfl rfl
    have hw4 := ws_len g' h2 (l := l) List.mem_cons_self
    obtain ⟨_, hroom⟩ := good_put hS.pos g' (w := v) h2 h3 (by omega)
    have hm : putAt m' a v = ⟨m'.cells, m'.rooms.set (a / 4 % S) (⟨l.num, l.ws.set (a % 4) v, true⟩ :: tl)⟩ := by
      unfold putAt
      rw [Option.some.inj ((room_some hS.pos g' (a / 4)).symm.trans h2), g'.len]
    rw [hm] at k
    refine ⟨_, rfl, _, rfl, x, CL K, dxl, _, _, rfl, b1, T.cLine, T.nLine_fours, lf_fours _ _ _, _, rfl, _, _, rfl, rfl, (by show (0 : Int) < 4; decide), ?_⟩
    refine ⟨q, _, _, a % 4, rfl, rfl, b3, ?_, ?_⟩
    · have e : (a : Int) % 4 = ((a % 4 : Nat) : Int) := by omega
      show ixN _ ((a : Int) % 4) = _
      rw [e]
      exact ix_nat (by rw [List.length_map, hw4]; omega)
    have nqx : x ≠ q := ne_role ox b2 (kd_ne (by intro z; cases z))
    refine ⟨_, rfl, x, CL K, dxl, _, rfl, (by rw [upd_ne nqx]; exact b1), T.cLine, T.nLine_changed, (by show 3 < 1000; decide), ?_⟩
    rw [lf_put_ch]
    have kp : Kp (fun k => k ≠ .fours l.num ∧ k ≠ .line l.num) t H' (upd (upd H' q (.lst ((l.ws.map V.int).set (a % 4) (V.int v)))) x (.ins (CL K) dxl (lf l.num q true))) ω' ω' :=
      Kp.trans (Kp.weak (Kp.upd _ b2) fun _ h => h.1) (Kp.weak (Kp.upd _ ox) fun _ h => h.2)
    have nd := (g'.two _ _ h2).2
    have htl : ∀ o ∈ tl, o.num ≠ l.num := fun o ho z => by
      rw [List.map_cons, List.nodup_cons] at nd
      exact nd.1 (List.mem_map.mpr ⟨o, ho, z⟩)
    have hfree : ∀ o : Ln, o.num ≠ l.num → ((Kd.line o.num ≠ .fours l.num ∧ Kd.line o.num ≠ .line l.num) ∧ (Kd.fours o.num ≠ .fours l.num ∧ Kd.fours o.num ≠ .line l.num)) := fun o ho =>
      ⟨⟨(by intro z; cases z), fun z => ho (by injection z)⟩, ⟨fun z => ho (by injection z), (by intro z; cases z)⟩⟩
    have hoth : ∀ (j : Nat) (ls : List Ln), j ≠ a / 4 % S → m'.rooms[j]? = some ls → ∀ o ∈ ls, o.num ≠ l.num := fun j ls hj hls o ho z => by
      have := (g'.at_ j ls o hls ho).1
      rw [z, h3] at this
      exact hj this.symm
    have R2 : RoomAt K (upd (upd H' q (.lst ((l.ws.map V.int).set (a % 4) (V.int v)))) x (.ins (CL K) dxl (lf l.num q true))) ω' t r (a / 4 % S) (⟨l.num, l.ws.set (a % 4) v, true⟩ :: tl) (x :: as) := by
      refine ⟨R.ow, (kp r _ _ ⟨(by intro z; cases z), (by intro z; cases z)⟩ R.ow R.at_).1, ?_⟩
      have pl := R.ls
      cases pl with
      | cons z1 z2 =>
        refine .cons ⟨ox, dxl, q, upd_same, b2, ?_⟩ (Paired.mem2 z2 fun b o ho z => z.mono kp (hfree o (htl o ho)).1 (hfree o (htl o ho)).2)
        rw [upd_ne nqx.symm, upd_same, List.map_set]
    refine k _ ω' ⟨y', ?_⟩ (F.trans ((Frm.upd _ b2).trans (Frm.upd _ ox)))
    refine N'.build kp (k := a / 4 % S) (r' := r) (ls' := ⟨l.num, l.ws.set (a % 4) v, true⟩ :: tl) (as' := x :: as) ?_ N'.po ?_ N'.so ?_ N'.co ?_ N'.ro ?_ (fun j q h => ?_) (fun j q h => ?_) R2 (fun j ls hj hls => ⟨⟨(by intro z; cases z), (by intro z; cases z)⟩, fun o ho => hfree o (hoth j ls hj hls o ho)⟩)
    · exact (kp p _ _ ⟨(by intro z; cases z), (by intro z; cases z)⟩ N'.po N'.pp).1
    · exact (kp s _ _ ⟨(by intro z; cases z), (by intro z; cases z)⟩ N'.so N'.ss).1
    · exact (kp y'.c _ _ ⟨(by intro z; cases z), (by intro z; cases z)⟩ N'.co N'.cc).1
    · exact (kp y'.rl _ _ ⟨(by intro z; cases z), (by intro z; cases z)⟩ N'.ro N'.rr).1
    · show y'.rs.length = (m'.rooms.set _ _).length
      rw [List.length_set]
      exact N'.len
    · by_cases e : j = a / 4 % S
      · subst e
        exact .inl ⟨rfl, Option.some.inj (h.symm.trans h1)⟩
      · exact .inr ⟨e, h⟩
    · rcases set_get (show (m'.rooms.set _ _)[j]? = some q from h) with ⟨e1, e2, _⟩ | ⟨e1, e2⟩
      · exact .inl ⟨e1, e2⟩
      · exact .inr ⟨e1, e2⟩
theorem scCo : FnScope ["self", "address", "room"] ["self", "address"] (defScope sNear_cost) := ⟨rfl, rfl, rfl, by decide +kernel, rfl, by decide +kernel, by decide +kernel⟩
theorem ok_cost (T : Tx K mg) : Ok P w K mg base 3 (He.ma K (CN K) "cost") ["self", "address"] (spCost K) := by
  obtain ⟨tI, hI⟩ := T.iIN_LINE
  obtain ⟨t1, h1⟩ := T.iNEAR_COST
  obtain ⟨t5, h5⟩ := T.iCOME_COST
  obtain ⟨t9, h9⟩ := T.iCHANGED_COST
  obtain ⟨t2, h2⟩ := T.iROOM
  obtain ⟨fdA, GA, bA⟩ := ok_need_address (P := P) (w := w) (base := base) T
  obtain ⟨fdL, GL, bL⟩ := ok_line_of (P := P) (w := w) (base := base) T
  obtain ⟨fdR, GR, bR⟩ := ok_room_of (P := P) (w := w) (base := base) T
  refine ok_by T.DNear_cost scCo (fun vs H Q E h => ?_) (fun _ _ _ _ _ _ us hl => match us, hl with | [_, _], _ => rfl) (fun f cdv A outer sh H vs Q E hr h => ?_)
  · obtain ⟨p, s, m, ω, t, S, L, ws, a, rfl, _⟩ := h
    rfl
  · obtain ⟨p, s, m, ω, t, S, L, ws, a, rfl, ⟨y, N⟩, hS, hL, g, ha, k1, k2⟩ := h
    have hr1 : Room 1 _ := hr.mono (by decide)
    refine ⟨_, pss_cons (ps_expr (pe_meth (pv 0) T.cNear T.mNear_need_address GA hr bA .nil pass0 (pa_cons (pv 1) pa_nil)))
      (pss_cons (ps_if (pt_cmpR op_notN (pe_meth (pv 0) T.cNear T.mNear_line_of GL hr bL .nil pass0 (pa_cons (pv 1) pa_nil)) pe_non (nomark _)) (pss_one (ps_ret (pe_glob (v := .int 1) rfl h1 ⟨t1, rfl⟩))) pss_nil)
      (pss_cons (ps_set (i := 2) scCo.nd rfl (Or.inl rfl) (pe_meth (pv 0) T.cNear T.mNear_room_of GR hr1 bR .nil pass0 (pa_cons (pe_op op_fdiv (pv 1) (pe_glob (v := .int 4) rfl hI ⟨tI, rfl⟩)) pa_nil)))
      (pss_cons (ps_if (PW.pt (pw_and (pt_cmpR op_eq (pe_callB call_len_seq (by rfl) T.flen bo_len (pa_cons (pv 2) pa_nil)) (pe_glob (v := .int 2) rfl h2 ⟨t2, rfl⟩) (nomark _))
          (pw_and1 (pt_val (pe_fld (pe_ix ix_list (pv 2) (pe_un un_neg pe_int) (fun _ _ => rfl)) rfl))))) (pss_one (ps_ret (pe_glob (v := .int 9) rfl h9 ⟨t9, rfl⟩))) pss_nil)
      (pss_one (ps_ret (pe_glob (v := .int 5) rfl h5 ⟨t5, rfl⟩)))))), ?_⟩
    have hpos := hS.pos
    have hlen : y.rs.length = S := by rw [N.len, g.len]
    have hk := room_some hpos g (a / 4)
    have hkS : a / 4 % S < S := Nat.mod_lt _ hpos
    obtain ⟨r, hr'⟩ : ∃ r, y.rs[a / 4 % S]? = some r := ⟨_, List.getElem?_eq_getElem (by rw [hlen]; exact hkS)⟩
    obtain ⟨as, R⟩ := N.rm _ _ _ hr' hk
    refine ⟨_, rfl, p, y.dx, _, rfl, N.pp, nf_no _ _ (by decide +kernel) (by decide +kernel), _, rfl, p, s, y.dx, y.dxs, y.rl, y.c, y.rd, y.wr, _, a, rfl, N.pp, N.ss, N.cc, (by rw [List.length_map, g.cl]; exact ha), ?_⟩
    refine ⟨_, rfl, p, y.dx, _, rfl, N.pp, nf_no _ _ (by decide +kernel) (by decide +kernel), _, rfl, p, s, y.dx, y.rl, r, y.rs, as, roomOf m (a / 4), a, ω, t, a / 4 % S, rfl, N.pp, N.rr, (by rw [hlen]; exact hr'), R, fun no => ?_, fun i x l q1 q2 q3 => ?_⟩
    · refine ⟨rfl, _, rfl, iteNS rfl ?_⟩
      have e4 : (a : Int) / 4 = ((a / 4 : Nat) : Int) := by omega
      refine ⟨_, rfl, p, y.dx, _, rfl, N.pp, nf_no _ _ (by decide +kernel) (by decide +kernel), _, rfl, _, _, rfl, rfl, ⟨by decide, by decide⟩, p, s, y.dx, y.rl, r, y.rs, a / 4, ?_, N.pp, N.rr, (by rw [hlen]; exact hr'), ?_⟩
      · show [V.ref p, V.int ((a : Int) / 4)] = _
        rw [e4]
      refine ⟨_, rfl, r, _, rfl, .inl (SqL.of R.at_), rfl, _, rfl, ?_⟩
      have el : as.length = (roomOf m (a / 4)).length := Paired.length R.ls
      by_cases e2 : (roomOf m (a / 4)).length = 2
      · refine iteD (by rw [List.length_map, el, e2]; rfl) ?_
        obtain ⟨l0, l1, els⟩ := two_of e2
        obtain ⟨a0, a1, eas⟩ := two_of (el.trans e2)
        rw [els] at R
        subst eas
        obtain ⟨_, dxl, q, b1, b2, b3⟩ := Paired.get (i := 1) R.ls rfl rfl
        refine ⟨_, rfl, _, rfl, r, _, _, V.ref a1, rfl, rfl, SqL.of R.at_, rfl, a1, CL K, dxl, _, _, rfl, b1, T.cLine, T.nLine_changed, lf_ch _ _ _, _, rfl, ?_⟩
        cases l1.ch with
        | true => exact iteT (k2 no _)
        | false => exact iteF (k2 no _)
      · refine iteDF (fun z => e2 ?_) ?_
        · injection z with z1
          rw [List.length_map, el] at z1
          omega
        · exact iteF (k2 no _)
    · exact ⟨rfl, _, rfl, iteNT (by intro z; cases z) (k1 ⟨l, List.mem_of_getElem? q2, q3⟩)⟩
theorem scLk : FnScope ["self", "address", "found"] ["self", "address"] (defScope sNear_look) := ⟨rfl, rfl, rfl, by decide +kernel, rfl, by decide +kernel, by decide +kernel⟩
theorem ok_look (T : Tx K mg) : Ok P w K mg base 3 (He.ma K (CN K) "look") ["self", "address"] (spLook K) := by
  obtain ⟨tI, hI⟩ := T.iIN_LINE
  obtain ⟨fdA, GA, bA⟩ := ok_need_address (P := P) (w := w) (base := base) T
  obtain ⟨fdL, GL, bL⟩ := ok_line_of (P := P) (w := w) (base := base) T
  obtain ⟨fdW, GW, bW⟩ := ok_whole (P := P) (w := w) (base := base) T
  refine ok_by T.DNear_look scLk (fun vs H Q E h => ?_) (fun _ _ _ _ _ _ us hl => match us, hl with | [_, _], _ => rfl) (fun f cdv A outer sh H vs Q E hr h => ?_)
  · obtain ⟨p, s, m, ω, t, S, L, ws, a, rfl, _⟩ := h
    rfl
  · obtain ⟨p, s, m, ω, t, S, L, ws, a, rfl, ⟨y, N⟩, hS, hL, g, ha, k⟩ := h
    have hr1 : Room 1 _ := hr.mono (by decide)
    refine ⟨_, pss_cons (ps_expr (pe_meth (pv 0) T.cNear T.mNear_need_address GA hr bA .nil pass0 (pa_cons (pv 1) pa_nil)))
      (pss_cons (ps_set (i := 2) scLk.nd rfl (Or.inl rfl) (pe_meth (pv 0) T.cNear T.mNear_line_of GL hr bL .nil pass0 (pa_cons (pv 1) pa_nil)))
      (pss_cons (ps_if (pt_cmpR op_isN (pv 2) pe_non (nomark _)) (pss_one (ps_ret (pe_ix ix_list (pe_meth0 (pe_fld (pv 0) rfl) T.cSlow T.mSlow_whole GW hr1 bW .nil pass0) (pv 1) (fun _ _ => rfl)))) pss_nil)
      (pss_one (ps_ret (pe_ix ix_list (pe_fld (pv 2) rfl) (pe_op op_mod (pv 1) (pe_glob (v := .int 4) rfl hI ⟨tI, rfl⟩)) (fun _ _ => rfl)))))), ?_⟩
    have hpos := hS.pos
    have hlen : y.rs.length = S := by rw [N.len, g.len]
    have hk := room_some hpos g (a / 4)
    have hkS : a / 4 % S < S := Nat.mod_lt _ hpos
    obtain ⟨r, hr'⟩ : ∃ r, y.rs[a / 4 % S]? = some r := ⟨_, List.getElem?_eq_getElem (by rw [hlen]; exact hkS)⟩
    obtain ⟨as, R⟩ := N.rm _ _ _ hr' hk
    obtain ⟨v, hv⟩ : ∃ v, ws[a]? = some v := ⟨_, List.getElem?_eq_getElem (by rw [g.wl]; exact ha)⟩
    refine ⟨_, rfl, p, y.dx, _, rfl, N.pp, nf_no _ _ (by decide +kernel) (by decide +kernel), _, rfl, p, s, y.dx, y.dxs, y.rl, y.c, y.rd, y.wr, _, a, rfl, N.pp, N.ss, N.cc, (by rw [List.length_map, g.cl]; exact ha), ?_⟩
    refine ⟨_, rfl, p, y.dx, _, rfl, N.pp, nf_no _ _ (by decide +kernel) (by decide +kernel), _, rfl, p, s, y.dx, y.rl, r, y.rs, as, roomOf m (a / 4), a, ω, t, a / 4 % S, rfl, N.pp, N.rr, (by rw [hlen]; exact hr'), R, fun no => ?_, fun i x l q1 q2 q3 => ?_⟩
    · refine ⟨_, rfl, rfl, _, rfl, iteD rfl ?_⟩
      refine ⟨_, rfl, p, CN K, y.dx, _, _, rfl, N.pp, T.cNear, T.nNear_slow, nf_slow _ _, s, y.dxs, _, rfl, N.ss, sf_no _ _ _ (by decide +kernel) (by decide +kernel) (by decide +kernel), s, y.dxs, y.c, y.rd, y.wr, _, rfl, N.ss, N.cc, fun l hl => ?_⟩
      have hc : m.cells[a]? = some v := by
        rw [← four_at, g.out (a / 4) (by omega) (fun j q o hq ho eo => ?_), four_at]
        · exact hv
        · have hj : j = a / 4 % S := by
            have := (g.at_ j q o hq ho).1
            rw [eo] at this
            exact this.symm
          subst hj
          have eq : q = roomOf m (a / 4) := Option.some.inj (hq.symm.trans hk)
          subst eq
          exact absurd eo (no o ho)
      exact ⟨_, rfl, l, _, _, V.int v, rfl, rfl, SqL.of upd_same, at_of (j := a) rfl (by rw [List.getElem?_map, hc]; rfl), k v _ hv (same_new _ hl)⟩
    · refine ⟨_, rfl, rfl, _, rfl, iteDF (by intro z; cases z) ?_⟩
      obtain ⟨_, dxl, q, b1, b2, b3⟩ := Paired.get R.ls q1 q2
      have hw : l.ws[a % 4]? = some v := by
        rw [(g.at_ _ _ l hk (List.mem_of_getElem? q2)).2.2, q3, four_at]
        exact hv
      refine ⟨_, rfl, x, CL K, dxl, _, _, rfl, b1, T.cLine, T.nLine_fours, lf_fours _ _ _, _, rfl, _, _, rfl, rfl, (by show (0 : Int) < 4; decide), ?_⟩
      exact ⟨q, _, _, V.int v, rfl, rfl, SqL.of b3, at_of (j := a % 4) (by omega) (by rw [List.getElem?_map, hw]; rfl), k v H hv (Same.refl H)⟩
end
end RM

namespace RM
open PySem PySem.Spec PyProof.Rows L2
/-! ### the near memory, third part: settle, held -/
theorem Paired.setR {α β : Type} {F G : α → β → Prop} {b' : β} : ∀ {as : List α} {ls : List β} {i : Nat}, Paired F as ls → (∀ (j : Nat) (a : α) (b : β), j ≠ i → as[j]? = some a → ls[j]? = some b → F a b → G a b) → (∀ a, as[i]? = some a → G a b') → Paired G as (ls.set i b')
  | _, _, _, .nil, _, _ => .nil
  | _, _, 0, .cons (a := a) (b := b) (l₁ := as) (l₂ := ls) h t, f, g => .cons (g a rfl) (Paired.setR0 t fun j x y h1 h2 => f (j + 1) x y (by omega) (by simpa using h1) (by simpa using h2))
  | _, _, i + 1, .cons (a := a) (b := b) (l₁ := as) (l₂ := ls) h t, f, g => .cons (f 0 a b (by omega) rfl rfl h) (Paired.setR t (fun j x y hj h1 h2 => f (j + 1) x y (by omega) (by simpa using h1) (by simpa using h2)) fun x hx => g x (by simpa using hx))
where
  Paired.setR0 {α β : Type} {F G : α → β → Prop} : ∀ {as : List α} {ls : List β}, Paired F as ls → (∀ (j : Nat) (a : α) (b : β), as[j]? = some a → ls[j]? = some b → F a b → G a b) → Paired G as ls
  | _, _, .nil, _ => .nil
  | _, _, .cons (a := a) (b := b) h t, f => .cons (f 0 a b rfl rfl h) (Paired.setR0 t fun j x y h1 h2 => f (j + 1) x y (by simpa using h1) (by simpa using h2))
section
variable {K : PySem.W.Frag} {H H' : Hp} {ω : Own} {t S L : Nat} {ws : List Int} {p s : Addr} {m : Mm} {y : Lay}
/-- a changed line of a set is written back -/
theorem settle_back (N : NearL K H ω t p s m y) (g : Good S L ws m) {j i : Nat} {r a : Addr} {ls : List Ln} {as : List Addr} {l : Ln} (hr : y.rs[j]? = some r) (hm : m.rooms[j]? = some ls) (R : RoomAt K H ω t r j ls as) (ha : as[i]? = some a) (hl : ls[i]? = some l) {dx q c' : Addr} {cs : List Int}
    (hq : ω q = some (t, .fours l.num)) (hq' : H q = some (.lst (l.ws.map V.int)))
    (f1 : H c' = none) (f2 : H' c' = some (.lst (cs.map V.int))) (f3 : H' s = some (.ins (CS K) y.dxs (sf c' y.rd (y.wr + 1)))) (f4 : H' a = some (.ins (CL K) dx (lf l.num q false))) (f5 : ∀ b o, H b = some o → b ≠ s → b ≠ a → H' b = some o) :
    NearL K H' (ownF ω c' (t, .cells)) t p s ⟨cs, m.rooms.set j (ls.set i ⟨l.num, l.ws, false⟩)⟩ ⟨y.dx, y.rl, y.dxs, c', y.rd, y.wr + 1, y.rs⟩ ∧ Frm t H H' ω (ownF ω c' (t, .cells)) := by
  have hla := Paired.get R.ls ha hl
  have kp : Kp (fun k => k ≠ .slow ∧ k ≠ .line l.num) t H H' ω (ownF ω c' (t, .cells)) := Kp.mark _ (fun b k o hk h1 h2 => ⟨f5 b o h2 (ne_role h1 N.so (kd_ne hk.1)) (ne_role h1 hla.ow (kd_ne hk.2)), h1⟩) f1
  have nsc : s ≠ c' := ne_of_none N.ss f1
  have hlm : l ∈ ls := List.mem_of_getElem? hl
  have nd := (g.two _ _ hm).2
  have nq : ∀ k : Kd, (∀ z, k ≠ .line z) → k ≠ .slow → k ≠ .slow ∧ k ≠ .line l.num := fun k h1 h2 => ⟨h2, h1 _⟩
  obtain ⟨_, dxo, qo, hao, _, _⟩ := hla
  have nac : a ≠ c' := ne_of_none hao f1
  have nqc : q ≠ c' := ne_of_none hq' f1
  have R2 : RoomAt K H' (ownF ω c' (t, .cells)) t r j (ls.set i ⟨l.num, l.ws, false⟩) as := by
    refine ⟨(kp r _ _ (nq _ (fun z e => by cases e) (by intro z; cases z)) R.ow R.at_).2, (kp r _ _ (nq _ (fun z e => by cases e) (by intro z; cases z)) R.ow R.at_).1, Paired.setR R.ls (fun i' b o hi' hb ho z => ?_) fun b hb => ?_⟩
    · refine z.mono kp ⟨(by intro z; cases z), fun z => hi' ?_⟩ (nq _ (fun z e => by cases e) (by intro z; cases z))
      have e : o.num = l.num := by injection z
      have h1 : (ls.map Ln.num)[i']? = some l.num := by rw [List.getElem?_map, ho, ← e]; rfl
      have h2 : (ls.map Ln.num)[i]? = some l.num := by rw [List.getElem?_map, hl]; rfl
      exact nd_ix nd h1 h2
    · have eb : b = a := Option.some.inj (hb.symm.trans ha)
      subst eb
      refine ⟨?_, dx, q, f4, ?_, ?_⟩
      · rw [own_ne nac]
        exact (Paired.get R.ls ha hl).ow
      · rw [own_ne nqc]
        exact hq
      · exact (kp q _ _ (nq _ (fun z e => by cases e) (by intro z; cases z)) hq hq').1
  refine ⟨N.build kp (k := j) (r' := r) (ls' := ls.set i ⟨l.num, l.ws, false⟩) (as' := as) ?_ ?_ f3 ?_ f2 own_same ?_ ?_ ?_ (fun j' q' h => ?_) (fun j' q' h => ?_) R2 (fun j' ls' hj hls => ⟨nq _ (fun z e => by cases e) (by intro z; cases z), fun o ho => ⟨⟨(by intro z; cases z), fun z => ?_⟩, nq _ (fun z e => by cases e) (by intro z; cases z)⟩⟩), ?_⟩
  · exact (kp p _ _ (nq _ (fun z e => by cases e) (by intro z; cases z)) N.po N.pp).1
  · exact (kp p _ _ (nq _ (fun z e => by cases e) (by intro z; cases z)) N.po N.pp).2
  · rw [own_ne nsc]
    exact N.so
  · exact (kp y.rl _ _ (nq _ (fun z e => by cases e) (by intro z; cases z)) N.ro N.rr).1
  · exact (kp y.rl _ _ (nq _ (fun z e => by cases e) (by intro z; cases z)) N.ro N.rr).2
  · show y.rs.length = (m.rooms.set j _).length
    rw [List.length_set]
    exact N.len
  · by_cases e : j' = j
    · subst e
      exact .inl ⟨rfl, Option.some.inj ((show y.rs[j']? = some q' from h).symm.trans hr)⟩
    · exact .inr ⟨e, h⟩
  · rcases set_get (show (m.rooms.set j _)[j']? = some q' from h) with ⟨e1, e2, _⟩ | ⟨e1, e2⟩
    · exact .inl ⟨e1, e2⟩
    · exact .inr ⟨e1, e2⟩
  · have e : o.num = l.num := by injection z
    have h1 := (g.at_ j' ls' o hls ho).1
    have h2 := (g.at_ j ls l hm hlm).1
    rw [e] at h1
    exact hj (h1.symm.trans h2)
  · have how : ω a = some (t, .line l.num) := (Paired.get R.ls ha hl).ow
    refine ⟨fun b o e n => f5 b o e (fun z => n .slow (by rw [z]; exact N.so)) (fun z => n (.line l.num) (by rw [z]; exact how)), fun b o e => own_ne (ne_of_none e f1), fun b o e => ?_, fun wf b e => ?_⟩
    · by_cases h1 : b = s
      · exact ⟨_, by rw [h1]; exact f3⟩
      · by_cases h2 : b = a
        · exact ⟨_, by rw [h2]; exact f4⟩
        · exact ⟨o, f5 b o e h1 h2⟩
    · have h1 : b ≠ c' := fun z => by rw [z, f2] at e; cases e
      rw [own_ne h1]
      cases q : H b with
      | none => exact wf b q
      | some o =>
        have h2 : b ≠ s := fun z => by rw [z, f3] at e; cases e
        have h3 : b ≠ a := fun z => by rw [z, f4] at e; cases e
        rw [f5 b o q h2 h3] at e
        cases e
end
def spSettle (K : PySem.W.Frag) : Sp := fun vs H Q _ => ∃ (p s : Addr) (m : Mm) (ω : Own) (t S L : Nat) (ws : List Int), vs = [.ref p] ∧ NearAt K H ω t p s m ∧ Sets S ∧ L ≤ 16 ∧ Good S L ws m ∧ Wf H ω ∧
  ∀ (H' : Hp) (ω' : Own) (m' : Mm), NearAt K H' ω' t p s m' → Good S L ws m' → Frm t H H' ω ω' → Q .non H'
section
variable {P : Program} {w : World} {K : PySem.W.Frag} {mg : Str → Option Value} {base : Heap}
theorem map_ix {α : Type} {f : α → V} {l : List α} {i : Nat} {v : V} (h : (l.map f)[i]? = some v) : ∃ a, l[i]? = some a ∧ v = f a := by
  rw [List.getElem?_map] at h
  cases e : l[i]? with
  | none =>
    rw [e] at h
    cases h
  | some a =>
    rw [e] at h
    exact ⟨a, rfl, (Option.some.inj h).symm⟩
theorem take_snoc {α : Type} {l : List α} {i : Nat} {a : α} (h : l[i]? = some a) : l.take (i + 1) = l.take i ++ [a] := by
  rw [List.take_add_one, h]
  rfl
theorem scSe : FnScope ["self", "room", "number", "one"] ["self"] (defScope sNear_settle) := ⟨rfl, rfl, rfl, by decide +kernel, rfl, by decide +kernel, by decide +kernel⟩
theorem ok_settle (T : Tx K mg) : Ok P w K mg base 4 (He.ma K (CN K) "settle") ["self"] (spSettle K) := by
  obtain ⟨tI, hI⟩ := T.iIN_LINE
  obtain ⟨fdL, GL, bL⟩ := ok_line_of (P := P) (w := w) (base := base) T
  obtain ⟨fdW, GW, bW⟩ := ok_write_back (P := P) (w := w) (base := base) T
  refine ok_by T.DNear_settle scSe (fun vs H Q E h => ?_) (fun _ _ _ _ _ _ us hl => match us, hl with | [_], _ => rfl) (fun f cdv A outer sh H vs Q E hr h => ?_)
  · obtain ⟨p, s, m, ω, t, S, L, ws, rfl, _⟩ := h
    rfl
  · obtain ⟨p, s, m, ω, t, S, L, ws, rfl, ⟨y, N⟩, hS, hL, g, wf, k⟩ := h
    have hr2 : Room 2 _ := hr.mono (by decide)
    refine ⟨_, pss_one (ps_for PassesOwn.never rfl (pi_list (pe_fld (pv 0) rfl)) (pg_name (i := 1) scSe.nd rfl (Or.inl rfl))
      (pss_one (ps_for PassesOwn.never rfl (pi_list (pe_callB cr_sorted (by rfl) T.fsorted bo_sorted (pa_cons
          (pe_lc (own := [("one", 3)]) (g := gName 3) (tt := tYes) (te := tFld K (tVar 3) "number") rfl scSe.nd (pi_list (pv 1)) (blkOk_by (N := ["self", "room", "number", "one"]) (sc := defScope sNear_settle) (by decide +kernel))
            (fun _ _ _ _ _ => pg_name (i := 3) scSe.nd rfl (Or.inl rfl)) (fun _ _ _ _ _ => pts_nil) (fun _ _ _ _ _ => pe_fld (pv 3) rfl)) pa_nil))) (pg_name (i := 2) scSe.nd rfl (Or.inl rfl))
        (pss_one (ps_expr (pe_meth (pv 0) T.cNear T.mNear_write_back GW hr bW .nil pass0 (pa_cons (pe_meth (pv 0) T.cNear T.mNear_line_of GL hr2 bL .nil pass0 (pa_cons (pe_op op_mul (pv 2) (pe_glob (v := .int 4) rfl hI ⟨tI, rfl⟩)) pa_nil)) pa_nil))))))), ?_⟩
    have hlen : y.rs.length = S := by rw [N.len, g.len]
    refine ⟨_, rfl, p, CN K, y.dx, _, _, rfl, N.pp, T.cNear, T.nNear_rooms, nf_rooms _ _, y.rl, rfl, ⟨_, SqL.of N.rr⟩, for_list (K := K) (a := y.rl) (xs := y.rs.map V.ref)
      (fun i σ H1 => ∃ (v1 v2 : Option V) (ω1 : Own) (m1 : Mm) (y1 : Lay), σ = [some (.ref p), v1, v2, none] ∧ NearL K H1 ω1 t p s m1 y1 ∧ y1.rs = y.rs ∧ y1.rl = y.rl ∧ Good S L ws m1 ∧ Frm t H H1 ω ω1)
      ⟨none, none, ω, m, y, rfl, N, rfl, rfl, g, Frm.refl _ _ _⟩ (fun i σ H1 _ ⟨_, _, ω1, m1, y1, _, N1, e1, e2, _⟩ => SqL.of (by rw [← e1, ← e2]; exact N1.rr)) ?_ ?_⟩
    · rintro i v σ H1 hi ⟨v1, v2, ω1, m1, y1, rfl, N1, e1, e2, g1, F1⟩
      obtain ⟨r, hr', rfl⟩ := map_ix hi
      have hiS : i < S := by rw [← hlen]; exact (List.getElem?_eq_some_iff.mp hr').1
      obtain ⟨ls, hls⟩ : ∃ ls, m1.rooms[i]? = some ls := ⟨_, List.getElem?_eq_getElem (by rw [g1.len]; exact hiS)⟩
      have hr1 : y1.rs[i]? = some r := by rw [e1]; exact hr'
      obtain ⟨as, R⟩ := N1.rm _ _ _ hr1 hls
      have wf1 := F1.wf wf
      -- the numbers
      refine ⟨_, rfl, r, rfl, ⟨_, SqL.of R.at_⟩, fun D hD => lc_list (K := K) (a := r) (xs := as.map V.ref) (fun j H2 => Same H1 H2 ∧ H2 D = some (.lst (((ls.take j).map fun l => (l.num : Int)).map V.int))) ?_ (fun j H2 _ ⟨sm, _⟩ => SqL.of (sm _ _ R.at_)) ?_ ?_⟩
      · exact ⟨same_new _ hD, upd_same⟩
      · rintro j v H2 hj ⟨sm, hd⟩
        obtain ⟨b, hb, rfl⟩ := map_ix hj
        obtain ⟨l, hl⟩ := Paired.left R.ls hb
        obtain ⟨_, dxb, qb, hb1, _, _⟩ := Paired.get R.ls hb hl
        refine ⟨rfl, _, rfl, b, CL K, dxb, _, _, rfl, sm _ _ hb1, T.cLine, T.nLine_number, lf_num _ _ _, _, hd, ?_, fun c o ec => ?_, ?_⟩
        · rw [List.length_map, List.length_map, List.length_take]
          have := (g1.two _ _ hls).1
          exact Nat.lt_of_le_of_lt (show _ ≤ 2 by omega) (by decide)
        · rw [upd_ne (ne_of_none ec hD)]
          exact sm c o ec
        · rw [upd_same, take_snoc hl, List.map_append, List.map_append]
          rfl
      rintro H2 ⟨sm, hd⟩
      have el : as.length = ls.length := Paired.length R.ls
      rw [List.length_map, List.take_of_length_le (by omega)] at hd
      refine ⟨D, ls.map fun l => (l.num : Int), rfl, SqL.of hd, ?_, fun ns' p2 perm _ n2 => ?_⟩
      · rw [List.length_map]
        have := (g1.two _ _ hls).1
        omega
      have s13 : Same H1 (upd H2 p2 (.lst (ns'.map V.int))) := sm.trans (same_new _ n2)
      have o2 : ω1 p2 = none := wf1 p2 (sm.free n2)
      refine ⟨p2, rfl, ⟨_, SqL.of upd_same⟩, for_list (K := K) (a := p2) (xs := ns'.map V.int)
        (fun _ σ H3 => ∃ (v2 : Option V) (ω3 : Own) (m3 : Mm) (y3 : Lay) (ls3 : List Ln), σ = [some (.ref p), some (.ref r), v2, none] ∧ NearL K H3 ω3 t p s m3 y3 ∧ y3.rs = y.rs ∧ y3.rl = y.rl ∧ Good S L ws m3 ∧ Frm t H H3 ω ω3 ∧
          m3.rooms[i]? = some ls3 ∧ ls3.map Ln.num = ls.map Ln.num ∧ H3 p2 = some (.lst (ns'.map V.int)) ∧ ω3 p2 = none) ?_ (fun _ σ H3 _ ⟨_, _, _, _, _, _, _, _, _, _, _, _, _, e, _⟩ => SqL.of e) ?_ ?_⟩
      · exact ⟨v2, ω1, m1, y1, ls, rfl, N1.mono (Kp.same s13), e1, e2, g1, F1.trans (Frm.same s13), hls, rfl, upd_same, o2⟩
      · rintro j v σ H3 hj ⟨v2, ω3, m3, y3, ls3, rfl, N3, e31, e32, g3, F3, hls3, en, hp2, o3⟩
        obtain ⟨z, hz, rfl⟩ := map_ix hj
        obtain ⟨l, hlm, rfl⟩ : ∃ l ∈ ls, (l.num : Int) = z := List.mem_map.mp (perm.mem_iff.mp (List.mem_of_getElem? hz))
        obtain ⟨l3, hl3, en3⟩ : ∃ l3 ∈ ls3, l3.num = l.num := List.mem_map.mp (by rw [en]; exact List.mem_map.mpr ⟨l, hlm, rfl⟩)
        have hr3 : y3.rs[i]? = some r := by rw [e31]; exact hr'
        obtain ⟨as3, R3⟩ := N3.rm _ _ _ hr3 hls3
        have hnum := g3.at_ i ls3 l3 hls3 hl3
        rw [en3] at hnum
        refine ⟨_, rfl, p, y3.dx, _, rfl, N3.pp, nf_no _ _ (by decide +kernel) (by decide +kernel), _, rfl, p, y3.dx, _, rfl, N3.pp, nf_no _ _ (by decide +kernel) (by decide +kernel), _, rfl, _, _, rfl, rfl, .inr ⟨by decide, by decide⟩,
          p, s, y3.dx, y3.rl, r, y3.rs, as3, ls3, 4 * l.num, ω3, t, i, ?_, N3.pp, N3.rr, ?_, R3, fun no => ?_, fun i5 x l5 h1 h2 h3 => ?_⟩
        · show [V.ref p, V.int ((l.num : Int) * 4)] = _
          rw [show (l.num : Int) * 4 = ((4 * l.num : Nat) : Int) by omega]
        · rw [show 4 * l.num / 4 = l.num by omega, show y3.rs.length = S by rw [e31]; exact hlen, hnum.1]
          exact hr3
        · exact absurd (by rw [en3]; omega) (no l3 hl3)
        obtain ⟨ox, dxl, q, b1, b2, b3⟩ := Paired.get R3.ls h1 h2
        have hl5 := List.mem_of_getElem? h2
        obtain ⟨c1, c2, c3⟩ := g3.at_ i ls3 l5 hls3 hl5
        have cw := ws_len g3 hls3 hl5
        refine ⟨p, s, y3.dx, y3.rl, x, dxl, q, y3.dxs, y3.c, y3.rd, y3.wr, m3.cells, l5.ws, l5.num, l5.ch, rfl, N3.pp, b1, b3, N3.ss, N3.cc, ne_role ox N3.so (kd_ne (by intro z; cases z)), (by rw [g3.cl]; omega), (by rw [g3.cl]; omega), (by rw [cw]; omega), fun hc => ?_, fun hc c' H' f1 f2 f3 f4 f5 => ?_⟩
        · exact ⟨_, ω3, m3, y3, ls3, rfl, N3, e31, e32, g3, F3, hls3, en, hp2, o3⟩
        · obtain ⟨N4, F4⟩ := settle_back N3 g3 hr3 hls3 R3 h1 h2 b2 b3 f1 f2 f3 f4 f5
          have g4 := good_settle g3 hls3 h2
          have eb : backAt m3 i i5 ls3 l5 = ⟨putFour m3.cells l5.num l5.ws, m3.rooms.set i (ls3.set i5 ⟨l5.num, l5.ws, false⟩)⟩ := by
            unfold backAt wb
            rw [if_pos hc]
          rw [eb] at g4
          refine ⟨_, _, _, _, ls3.set i5 ⟨l5.num, l5.ws, false⟩, rfl, N4, e31, e32, g4, F3.trans F4, set_self (by rw [g3.len]; exact hiS), ?_, F4.keep p2 _ hp2 (fun q e => by rw [o3] at e; cases e), (F4.own p2 _ hp2).trans o3⟩
          rw [← en, List.map_set]
          apply List.ext_getElem?
          intro x
          rw [List.getElem?_set]
          split
          · rename_i e
            subst e
            rw [List.getElem?_map, h2]
            simp [(List.getElem?_eq_some_iff.mp h2).1]
          · rfl
      · rintro σ H3 ⟨v2, ω3, m3, y3, ls3, rfl, N3, e31, e32, g3, F3, _⟩
        exact ⟨_, _, ω3, m3, y3, rfl, N3, e31, e32, g3, F3⟩
    · rintro σ H1 ⟨v1, v2, ω1, m1, y1, rfl, N1, e1, e2, g1, F1⟩
      exact k H1 ω1 m1 ⟨y1, N1⟩ g1 F1
end
end RM

namespace RM
open PySem PySem.Spec PyProof.Rows L2
/-! ### held: what is told -/
/-- a triple of a line -/
def TripAt (H : Hp) (u : Addr) (l : Ln) : Prop := ∃ q, H u = some (.tup [.int (l.num : Int), .ref q, .bl l.ch]) ∧ H q = some (.tup (l.ws.map V.int))
/-- the tuple of a set's triples -/
def RowAt (H : Hp) (r : Addr) (ls : List Ln) : Prop := ∃ us : List Addr, H r = some (.tup (us.map V.ref)) ∧ Paired (TripAt H) us ls
def HeldAt (H : Hp) (h : Addr) (rooms : List (List Ln)) : Prop := ∃ rs : List Addr, H h = some (.tup (rs.map V.ref)) ∧ Paired (RowAt H) rs rooms
theorem TripAt.same {H H' : Hp} (s : Same H H') {u : Addr} {l : Ln} (x : TripAt H u l) : TripAt H' u l := let ⟨q, a, b⟩ := x; ⟨q, s _ _ a, s _ _ b⟩
theorem RowAt.same {H H' : Hp} (s : Same H H') {r : Addr} {ls : List Ln} (x : RowAt H r ls) : RowAt H' r ls := let ⟨us, a, b⟩ := x; ⟨us, s _ _ a, Paired.mem2 b fun _ _ _ z => z.same s⟩
theorem HeldAt.same {H H' : Hp} (s : Same H H') {h : Addr} {rooms : List (List Ln)} (x : HeldAt H h rooms) : HeldAt H' h rooms := let ⟨us, a, b⟩ := x; ⟨us, s _ _ a, Paired.mem2 b fun _ _ _ z => z.same s⟩
theorem TripAt.lst {H : Hp} {u D : Addr} {l : Ln} {xs : List V} (o : HO) (x : TripAt H u l) (hD : H D = some (.lst xs)) : TripAt (upd H D o) u l := by
  obtain ⟨q, a, b⟩ := x
  refine ⟨q, ?_, ?_⟩
  · rw [upd_ne (ne_of a hD (by intro z; cases z))]
    exact a
  · rw [upd_ne (ne_of b hD (by intro z; cases z))]
    exact b
theorem RowAt.lst {H : Hp} {r D : Addr} {ls : List Ln} {xs : List V} (o : HO) (x : RowAt H r ls) (hD : H D = some (.lst xs)) : RowAt (upd H D o) r ls := by
  obtain ⟨us, a, b⟩ := x
  refine ⟨us, ?_, Paired.mem2 b fun _ _ _ z => z.lst o hD⟩
  rw [upd_ne (ne_of a hD (by intro z; cases z))]
  exact a
def spHeld (K : PySem.W.Frag) : Sp := fun vs H Q _ => ∃ (p s : Addr) (m : Mm) (ω : Own) (t S L : Nat) (ws : List Int), vs = [.ref p] ∧ NearAt K H ω t p s m ∧ Sets S ∧ Good S L ws m ∧
  ∀ (h : Addr) (H' : Hp), HeldAt H' h m.rooms → Same H H' → Q (.ref h) H'
/-- a comprehension's block, where the body stands in a return's call -/
def lcOf : List Stmt → Scope
  | [.Return (some (.Call _ [.ListComp _ _ sc _] _ _)) _] => sc
  | _ => defScope (.Pass ⟨0, 0, 0, 0⟩)
abbrev scHeldOut : Scope := lcOf (defBody sNear_held)
def teHeld (K : PySem.W.Frag) : TE := tCB (fun xs H Q => ∃ p ys, xs = [.ref p] ∧ ((SqL K H p ys ∧ ∀ l, H l = none → Q (.ref l) (upd H l (.tup ys))) ∨ (SqT K H p ys ∧ Q (.ref p) H)))
  (tCons (tLc (iList K (tVar 1)) (gName 2) tYes (tMeth (CL K) "shown" (spShown K) [] E0 (tVar 2) tNil) [2]) tNil)
section
variable {P : Program} {w : World} {K : PySem.W.Frag} {mg : Str → Option Value} {base : Heap}
theorem scHe : FnScope ["self", "room", "one"] ["self"] (defScope sNear_held) := ⟨rfl, rfl, rfl, by decide +kernel, rfl, by decide +kernel, by decide +kernel⟩
theorem ok_held (T : Tx K mg) : Ok P w K mg base 2 (He.ma K (CN K) "held") ["self"] (spHeld K) := by
  obtain ⟨fdS, GS, bS⟩ := ok_shown (P := P) (w := w) (base := base) T
  refine ok_by T.DNear_held scHe (fun vs H Q E h => ?_) (fun _ _ _ _ _ _ us hl => match us, hl with | [_], _ => rfl) (fun f cdv A outer sh H vs Q E hr h => ?_)
  · obtain ⟨p, s, m, ω, t, S, L, ws, rfl, _⟩ := h
    rfl
  · obtain ⟨p, s, m, ω, t, S, L, ws, rfl, ⟨y, N⟩, hS, g, k⟩ := h
    refine ⟨_, pss_one (ps_ret (pe_callTy call_tuple_of (by rfl) T.ftuple bo_tuple (pa_cons
      (pe_lc (own := [("room", 1)]) (g := gName 1) (tt := tYes) (te := teHeld K) rfl scHe.nd (pi_list (pe_fld (pv 0) rfl)) (blkOk_by (N := ["self", "room", "one"]) (sc := defScope sNear_held) (by decide +kernel))
        (fun _ _ _ _ _ => pg_name (i := 1) scHe.nd rfl (Or.inl rfl)) (fun _ _ _ _ _ => pts_nil)
        (fun _ _ _ _ _ => pe_callTy call_tuple_of (by rfl) T.ftuple bo_tuple (pa_cons
          (pe_lc (own := [("one", 2)]) (g := gName 2) (tt := tYes) (te := tMeth (CL K) "shown" (spShown K) [] E0 (tVar 2) tNil) rfl scHe.nd (pi_list (pv 1)) (blkOk_by (N := ["self", "room", "one"]) (sc := relS scHeldOut (defScope sNear_held)) (by decide +kernel))
            (fun _ _ _ _ _ => pg_name (i := 2) scHe.nd rfl (Or.inl rfl)) (fun _ _ _ _ _ => pts_nil)
            (fun _ _ _ _ _ => pe_meth0 (pv 2) T.cLine T.mLine_shown GS hr bS .nil pass0)) pa_nil))) pa_nil))), ?_⟩
    have hrl : y.rs.length = S := by rw [N.len, g.len]
    refine ⟨_, rfl, p, CN K, y.dx, _, _, rfl, N.pp, T.cNear, T.nNear_rooms, nf_rooms _ _, y.rl, rfl, ⟨_, SqL.of N.rr⟩, fun D hD => lc_list (K := K) (a := y.rl) (xs := y.rs.map V.ref)
      (fun i H1 => Same H H1 ∧ ∃ ts : List Addr, H1 D = some (.lst (ts.map V.ref)) ∧ Paired (RowAt H1) ts (m.rooms.take i)) ?_ (fun i H1 _ ⟨sm, _⟩ => SqL.of (sm _ _ N.rr)) ?_ ?_⟩
    · exact ⟨same_new _ hD, [], upd_same, by rw [List.take_zero]; exact .nil⟩
    · rintro i v H1 hi ⟨sm, ts, hd, pt⟩
      obtain ⟨r, hr', rfl⟩ := map_ix hi
      have hiS : i < S := by rw [← hrl]; exact (List.getElem?_eq_some_iff.mp hr').1
      obtain ⟨ls, hls⟩ : ∃ ls, m.rooms[i]? = some ls := ⟨_, List.getElem?_eq_getElem (by rw [g.len]; exact hiS)⟩
      obtain ⟨as, R⟩ := N.rm _ _ _ hr' hls
      have el : as.length = ls.length := Paired.length R.ls
      have l2 := (g.two _ _ hls).1
      refine ⟨rfl, _, rfl, r, rfl, ⟨_, SqL.of (sm _ _ R.at_)⟩, fun D2 hD2 => lc_list (K := K) (a := r) (xs := as.map V.ref)
        (fun j H3 => Same H1 H3 ∧ ∃ us : List Addr, H3 D2 = some (.lst (us.map V.ref)) ∧ Paired (TripAt H3) us (ls.take j)) ?_ (fun j H3 _ ⟨sm3, _⟩ => SqL.of (sm3 _ _ (sm _ _ R.at_))) ?_ ?_⟩
      · exact ⟨same_new _ hD2, [], upd_same, by rw [List.take_zero]; exact .nil⟩
      · rintro j v H3 hj ⟨sm3, us, hd3, pu⟩
        obtain ⟨b, hb, rfl⟩ := map_ix hj
        obtain ⟨l, hl⟩ := Paired.left R.ls hb
        obtain ⟨_, dxl, q, b1, _, b3⟩ := Paired.get R.ls hb hl
        refine ⟨rfl, _, rfl, b, dxl, _, rfl, sm3 _ _ (sm _ _ b1), lf_no _ _ _ (by decide +kernel) (by decide +kernel) (by decide +kernel), b, q, dxl, _, l.ch, _, rfl, sm3 _ _ (sm _ _ b1), sm3 _ _ (sm _ _ b3), fun tp tq H' n1 e1 e2 sm' => ?_⟩
        refine ⟨_, sm' _ _ hd3, ?_, fun c o ec => ?_, us ++ [tp], ?_, ?_⟩
        · have h5 := Paired.length pu
          rw [List.length_take] at h5
          rw [List.length_map, h5]
          exact Nat.lt_of_le_of_lt (show _ ≤ 2 by omega) (by decide)
        · rw [upd_ne (ne_of_none ec hD2)]
          exact sm' _ _ (sm3 c o ec)
        · rw [upd_same, List.map_append]
          rfl
        · rw [take_snoc hl]
          exact Paired.snoc (Paired.mem2 pu fun _ _ _ z => (z.same sm').lst _ (sm' _ _ hd3)) ((show TripAt H' tp l from ⟨tq, e1, e2⟩).lst _ (sm' _ _ hd3))
      · rintro H3 ⟨sm3, us, hd3, pu⟩
        rw [List.length_map, List.take_of_length_le (by omega)] at pu
        refine ⟨D2, _, rfl, .inl ⟨SqL.of hd3, fun tp n1 => ?_⟩⟩
        have hdD : H3 D = some (.lst (ts.map V.ref)) := sm3 _ _ hd
        have st := same_new (.tup (us.map V.ref)) n1
        refine ⟨_, st _ _ hdD, ?_, fun c o ec => ?_, ts ++ [tp], ?_, ?_⟩
        · have h5 := Paired.length pt
          have := hS.le
          rw [List.length_take] at h5
          rw [List.length_map, h5]
          exact Nat.lt_of_le_of_lt (show _ ≤ 4 by omega) (by decide)
        · rw [upd_ne (ne_of_none ec hD)]
          exact st _ _ (sm3 _ _ (sm c o ec))
        · rw [upd_same, List.map_append]
          rfl
        · rw [take_snoc hls]
          refine Paired.snoc (Paired.mem2 pt fun _ _ _ z => ((z.same sm3).same st).lst _ (st _ _ hdD)) (RowAt.lst _ ?_ (st _ _ hdD))
          exact ⟨us, upd_same, Paired.mem2 pu fun _ _ _ z => z.same st⟩
    · rintro H1 ⟨sm, ts, hd, pt⟩
      rw [List.length_map, List.take_of_length_le (by rw [hrl, g.len]; exact Nat.le_refl _)] at pt
      refine ⟨D, _, rfl, .inl ⟨SqL.of hd, fun tp n1 => ?_⟩⟩
      have st := same_new (.tup (ts.map V.ref)) n1
      exact k tp _ ⟨ts, upd_same, Paired.mem2 pt fun _ _ _ z => z.same st⟩ (sm.trans st)
end
end RM

namespace RM
open PySem PySem.Spec PyProof.Rows L2
/-! ### the law's draws -/
theorem dp_ints {K : PySem.W.Frag} {H : Hp} : ∀ ns : List Int, DpAll K H (ns.map V.int) (ns.map PyData.int)
  | [] => .nil
  | n :: ns => .cons (.int n) (dp_ints ns)
theorem lay_ints : ∀ ns : List Int, PyData.canLayAll0 (ns.map PyData.int) = true ∧ PyData.depthAll (ns.map PyData.int) ≤ 1
  | [] => ⟨rfl, by simp [PyData.depthAll]⟩
  | n :: ns => by
    obtain ⟨h1, h2⟩ := lay_ints ns
    refine ⟨?_, ?_⟩
    · simp [PyData.canLayAll0, PyData.canLay0, h1]
    · simp only [List.map_cons, PyData.depthAll, PyData.depth]
      omega
theorem shape_ints (ns : List Int) : SeqAt.shaped (.list (ns.map PyData.int)) = true := by
  obtain ⟨h1, h2⟩ := lay_ints ns
  unfold SeqAt.shaped
  rw [Bool.and_eq_true_iff]
  refine ⟨by simp only [PyData.canLay0]; exact h1, decide_eq_true ?_⟩
  simp only [PyData.depth]
  omega
theorem eqv_ints (ns : List Int) : PyData.eqv (.list (ns.map PyData.int)) (.list (ns.map PyData.int)) = true := SeqAt.eqv_refl _ (SeqAt.canLay_of_shaped (shape_ints ns))
theorem at_in {xs : List V} {i : Int} (h0 : 0 ≤ i) (h1 : i < xs.length) : ∃ v, atI xs i = some v ∧ v ∈ xs := by
  obtain ⟨j, rfl⟩ : ∃ j : Nat, i = (j : Int) := ⟨i.toNat, by omega⟩
  have hj : j < xs.length := by omega
  exact ⟨xs[j], atI_nat (List.getElem?_eq_getElem hj), List.getElem_mem hj⟩
def spCell_ (K : PySem.W.Frag) : Sp := fun vs H Q _ => ∃ (a : Addr) (ns : List Int) (k : Nat), vs = [.ref a, .int k] ∧ SqL K H a (ns.map V.int) ∧ ns.length ≤ 63 ∧ k < 100000 ∧ ∀ (z : Int) (H' : Hp), 0 ≤ z → z < 2147483587 → Same H H' → Q (.int z) H'
def spWord_ : Sp := fun vs H Q _ => ∃ c : Int, vs = [.int c] ∧ ∀ (z : Int) (H' : Hp), Same H H' → Q (.int z) H'
def spWords (K : PySem.W.Frag) : Sp := fun vs H Q _ => ∃ (a : Addr) (ns : List Int) (k many : Nat), vs = [.ref a, .int k, .int many] ∧ SqL K H a (ns.map V.int) ∧ ns.length ≤ 63 ∧ k + many ≤ 1000 ∧
  ∀ (W : Addr) (ws : List Int) (H' : Hp), H W = none → ws.length = many → H' W = some (.lst (ws.map V.int)) → Same H H' → Q (.ref W) H'
def spAddress (K : PySem.W.Frag) : Sp := fun vs H Q _ => ∃ (a : Addr) (ns : List Int) (k many : Nat), vs = [.ref a, .int k, .int many] ∧ SqL K H a (ns.map V.int) ∧ ns.length ≤ 63 ∧ k < 1000 ∧ 0 < many ∧
  ∀ (z : Nat) (H' : Hp), z < many → Same H H' → Q (.int z) H'
/-- the five deeds -/
inductive Dd where
  | get | put | cost | look | settle
  deriving DecidableEq
def Dd.nm : Dd → Str
  | .get => "get"
  | .put => "put"
  | .cost => "cost"
  | .look => "look"
  | .settle => "settle"
def spDeedBy (K : PySem.W.Frag) : Sp := fun vs H Q _ => ∃ (a : Addr) (ns : List Int) (k many : Nat), vs = [.ref a, .int k, .int many] ∧ SqL K H a (ns.map V.int) ∧ ns.length ≤ 63 ∧ k < 100 ∧ 0 < many ∧
  ∀ (tp : Addr) (d : Dd) (adr : Nat) (v : Int) (H' : Hp), H tp = none → H' tp = some (.tup [.str d.nm, .int adr, .int v]) → adr < many → Same H H' → Q (.ref tp) H'
section
variable {P : Program} {w : World} {K : PySem.W.Frag} {mg : Str → Option Value} {base : Heap}
theorem scCe : FnScope ["_law_script", "_law_k", "_law_cell_here", "_law_more"] ["_law_script", "_law_k"] (defScope s_law_cell) := ⟨rfl, rfl, rfl, by decide +kernel, rfl, by decide +kernel, by decide +kernel⟩
theorem ok_cell (T : Tx K mg) : Ok P w K mg base 1 (He.ga K "_law_cell") ["_law_script", "_law_k"] (spCell_ K) := by
  refine ok_by T.D_law_cell scCe (fun vs H Q E h => ?_) (fun _ _ _ _ _ _ us hl => match us, hl with | [_, _], _ => rfl) (fun f cdv A outer sh H vs Q E hr h => ?_)
  · obtain ⟨a, ns, k, rfl, _⟩ := h
    rfl
  · obtain ⟨a, ns, k, rfl, hS, hl, hk, kk⟩ := h
    refine ⟨_, pss_cons (ps_set (i := 2) scCe.nd rfl (Or.inl rfl) (pe_op op_add (pe_op op_mul pe_int (pv 1)) pe_int))
      (Evl.pss_cut (ps_if (pt_cmpR (op_neD hr.units) (pv 0) (pe_lst pa_nil) (nomark _))
        (pss_cons (ps_set (i := 2) scCe.nd rfl (Or.inl rfl) (pe_op op_add (pe_op op_add (pv 2) (pe_op op_mul (pe_ix ix_list (pv 0) (pe_op op_mod (pv 1) (pe_callB call_len_seq (by rfl) T.flen bo_len (pa_cons (pv 0) pa_nil))) (fun _ _ => rfl)) pe_int)) (pe_op op_mul pe_int (pv 1))))
        (pss_one (ps_set (i := 2) scCe.nd rfl (Or.inl rfl) (pe_op op_add (pv 2) (pe_op op_mul (pe_op op_fdiv (pv 1) (pe_callB call_len_seq (by rfl) T.flen bo_len (pa_cons (pv 0) pa_nil))) pe_int))))) pss_nil)
      (pss_cons (ps_set (i := 3) scCe.nd rfl (Or.inl rfl) (pe_op op_mod (pv 2) pe_int))
      (pss_cons (ps_set (i := 3) scCe.nd rfl (Or.inl rfl) (pe_op op_mod (pe_op op_mul (pv 3) (pv 3)) pe_int))
      (pss_one (ps_ret (pe_op op_mod (pe_op op_add (pe_op op_add (pe_op op_mul (pv 3) (pv 3)) (pe_op op_mul pe_int (pv 3))) (pv 1)) pe_int)))))), ?_⟩
    refine ⟨_, rfl, _, _, rfl, rfl, .inl ⟨by decide, by decide⟩, _, _, rfl, rfl, ?_⟩
    refine ⟨fun σ' H' => ∃ c : Int, σ' = [some (.ref a), some (.int k), some (.int c), none] ∧ Same H H', ?_, ?_⟩
    · refine ⟨_, rfl, Nat.zero_le _, fun l hl' => ?_⟩
      have st := same_new (.lst []) hl'
      refine ⟨.list (ns.map PyData.int), .list [], .lst (st.seq hS) (dp_ints ns), .lst (SqL.of upd_same) .nil, shape_ints ns, shape_ints [], _, rfl, ?_⟩
      match ns, hS, hl with
      | [], _, _ => exact ⟨_, rfl, st⟩
      | n0 :: ns', hS, hl =>
        have hlen : (0 : Int) < (((n0 :: ns').map V.int).length : Int) := by rw [List.length_map, List.length_cons]; omega
        have hlen2 : (((n0 :: ns').map V.int).length : Int) < 1073741824 := by rw [List.length_map]; omega
        obtain ⟨v, hv, hm⟩ := at_in (xs := (n0 :: ns').map V.int) (i := (k : Int) % (((n0 :: ns').map V.int).length : Int)) (Int.emod_nonneg _ (by omega)) (Int.emod_lt_of_pos _ hlen)
        obtain ⟨z, _, rfl⟩ := List.mem_map.mp hm
        refine ⟨_, rfl, _, rfl, _, rfl, _, rfl, a, _, rfl, .inl (st.seq hS), _, _, rfl, rfl, hlen, a, _, _, _, rfl, rfl, st.seq hS, hv, _, _, rfl, rfl, .inr ⟨by decide, by decide⟩, _, _, rfl, rfl, _, rfl, _, _, rfl, rfl, .inl ⟨by decide, by decide⟩, _, _, rfl, rfl, ?_⟩
        refine ⟨_, rfl, _, rfl, _, rfl, a, _, rfl, .inl (st.seq hS), _, _, rfl, rfl, ⟨hlen, hlen2⟩, _, _, rfl, rfl, .inr ⟨by decide, by decide⟩, _, _, rfl, rfl, ?_⟩
        exact ⟨_, rfl, st⟩
    rintro σ1 H1 ⟨c, rfl, st⟩
    have m1 : 0 ≤ c % 2147483647 := Int.emod_nonneg _ (by decide)
    have m2 : c % 2147483647 < 2147483647 := Int.emod_lt_of_pos _ (by decide)
    refine ⟨_, rfl, _, _, rfl, rfl, (by show (0 : Int) < 2147483647; decide), ?_⟩
    refine ⟨_, rfl, _, rfl, _, _, rfl, rfl, .inl ⟨Int.lt_of_lt_of_le (by decide) m1, Int.lt_trans m2 (by decide)⟩, _, _, rfl, rfl, (by show (0 : Int) < 2147483629; decide), ?_⟩
    have p1 : 0 ≤ c % 2147483647 * (c % 2147483647) % 2147483629 := Int.emod_nonneg _ (by decide)
    have p2 : c % 2147483647 * (c % 2147483647) % 2147483629 < 2147483629 := Int.emod_lt_of_pos _ (by decide)
    refine ⟨_, rfl, _, rfl, _, _, rfl, rfl, .inl ⟨Int.lt_of_lt_of_le (by decide) p1, Int.lt_trans p2 (by decide)⟩, _, rfl, _, _, rfl, rfl, .inl ⟨by decide, by decide⟩, _, _, rfl, rfl, _, rfl, _, _, rfl, rfl, _, _, rfl, rfl, (by show (0 : Int) < 2147483587; decide), ?_⟩
    exact kk _ _ (Int.emod_nonneg _ (by decide)) (Int.emod_lt_of_pos _ (by decide)) st
theorem scWd : FnScope ["_law_cell_here"] ["_law_cell_here"] (defScope s_law_word) := ⟨rfl, rfl, rfl, by decide +kernel, rfl, by decide +kernel, by decide +kernel⟩
theorem ok_word (T : Tx K mg) : Ok P w K mg base 1 (He.ga K "_law_word") ["_law_cell_here"] spWord_ := by
  refine ok_by T.D_law_word scWd (fun vs H Q E h => ?_) (fun _ _ _ _ _ _ us hl => match us, hl with | [_], _ => rfl) (fun f cdv A outer sh H vs Q E hr h => ?_)
  · obtain ⟨c, rfl, _⟩ := h
    rfl
  · obtain ⟨c, rfl, kk⟩ := h
    refine ⟨_, pss_one (ps_ret (pe_ix ix_list (pe_lst (pa_cons (pe_op op_mod (pv 0) pe_int) (pa_cons pe_int (pa_cons pe_int pa_nil)))) (pe_op op_fdiv (pe_op op_mod (pe_op op_fdiv (pv 0) pe_int) pe_int) pe_int) (fun _ _ => rfl))), ?_⟩
    refine ⟨_, rfl, _, _, rfl, rfl, (by show (0 : Int) < 65536; decide), (by show 3 ≤ sizeLine; decide), fun l hl => ?_⟩
    have e1 : 0 ≤ c / 65536 % 9 / 4 := by omega
    have e2 : c / 65536 % 9 / 4 < 3 := by omega
    obtain ⟨v, hv, hm⟩ := at_in (xs := [V.int (c % 65536), V.int 65535, V.int 0]) e1 e2
    obtain ⟨z, rfl⟩ : ∃ z, v = V.int z := by
      simp at hm
      rcases hm with rfl | rfl | rfl
      · exact ⟨_, rfl⟩
      · exact ⟨_, rfl⟩
      · exact ⟨_, rfl⟩
    refine ⟨_, rfl, _, _, rfl, rfl, ⟨by decide, by decide⟩, _, _, rfl, rfl, (by show (0 : Int) < 9; decide), _, _, rfl, rfl, ⟨by decide, by decide⟩, l, _, _, _, rfl, rfl, SqL.of upd_same, hv, kk z _ (same_new _ hl)⟩
theorem scWs : FnScope ["_law_script", "_law_k", "_law_many", "_law_j"] ["_law_script", "_law_k", "_law_many"] (defScope s_law_words) := ⟨rfl, rfl, rfl, by decide +kernel, rfl, by decide +kernel, by decide +kernel⟩
theorem ok_words (T : Tx K mg) : Ok P w K mg base 2 (He.ga K "_law_words") ["_law_script", "_law_k", "_law_many"] (spWords K) := by
  obtain ⟨fdC, GC, bC⟩ := ok_cell (P := P) (w := w) (base := base) T
  obtain ⟨fdW, GW, bW⟩ := ok_word (P := P) (w := w) (base := base) T
  have kC := (T.D_law_cell).choose_spec.kp
  have kW := (T.D_law_word).choose_spec.kp
  refine ok_by T.D_law_words scWs (fun vs H Q E h => ?_) (fun _ _ _ _ _ _ us hl => match us, hl with | [_, _, _], _ => rfl) (fun f cdv A outer sh H vs Q E hr h => ?_)
  · obtain ⟨a, ns, k, many, rfl, _⟩ := h
    rfl
  · obtain ⟨a, ns, k, many, rfl, hS, hl, hk, kk⟩ := h
    refine ⟨_, pss_one (ps_ret (pe_lc (own := [("_law_j", 3)]) (g := gName 3) (tt := tYes) rfl scWs.nd (pi_range1 rfl T.frange (pa_cons (pv 2) pa_nil)) (blkOk_by (N := ["_law_script", "_law_k", "_law_many", "_law_j"]) (sc := defScope s_law_words) (by decide +kernel))
        (fun _ _ _ _ _ => pg_name (i := 3) scWs.nd rfl (Or.inl rfl)) (fun _ _ _ _ _ => pts_nil)
        (fun _ _ _ _ _ => pe_call GW hr rfl T.glaw_word kW bW .nil pass0 (pa_cons (pe_call GC hr rfl T.glaw_cell kC bC .nil pass0 (pa_cons (pv 0) (pa_cons (pe_op op_add (pv 1) (pv 3)) pa_nil))) pa_nil)))), ?_⟩
    refine ⟨_, rfl, (many : Int), rfl, (by omega), (by omega), fun D hD => lc_range (lo := 0) (n := many) (fun i H1 => Same H H1 ∧ ∃ ws : List Int, ws.length = i ∧ H1 D = some (.lst (ws.map V.int))) ?_ ?_ ?_⟩
    · exact ⟨same_new _ hD, [], rfl, upd_same⟩
    · rintro i H1 hi ⟨sm, ws, hw, hd⟩
      refine ⟨rfl, _, rfl, _, rfl, _, rfl, _, _, rfl, rfl, a, ns, k + i, ?_, sm.seq hS, hl, (by omega), fun z H2 _ _ s2 => ⟨z, rfl, fun z' H3 s3 => ⟨_, s3 _ _ (s2 _ _ hd), ?_, fun b o e => ?_, ws ++ [z'], ?_, ?_⟩⟩⟩
      · show [V.ref a, V.int ((k : Int) + (0 + (i : Int)))] = _
        rw [show (k : Int) + (0 + (i : Int)) = ((k + i : Nat) : Int) by omega]
      · rw [List.length_map, hw]
        exact Nat.lt_of_lt_of_le (show i < 1000 by omega) (by decide)
      · rw [upd_ne (ne_of_none e hD)]
        exact s3 _ _ (s2 _ _ (sm b o e))
      · rw [List.length_append, hw]
        rfl
      · rw [upd_same, List.map_append]
        rfl
    · rintro H1 ⟨sm, ws, hw, hd⟩
      exact kk D ws H1 hD hw hd sm
theorem scAd : FnScope ["_law_script", "_law_k", "_law_many", "_law_cell_here", "_law_spot", "_law_stride", "_law_far"] ["_law_script", "_law_k", "_law_many"] (defScope s_law_address) := ⟨rfl, rfl, rfl, by decide +kernel, rfl, by decide +kernel, by decide +kernel⟩
theorem ok_address (T : Tx K mg) : Ok P w K mg base 2 (He.ga K "_law_address") ["_law_script", "_law_k", "_law_many"] (spAddress K) := by
  obtain ⟨fdC, GC, bC⟩ := ok_cell (P := P) (w := w) (base := base) T
  have kC := (T.D_law_cell).choose_spec.kp
  refine ok_by T.D_law_address scAd (fun vs H Q E h => ?_) (fun _ _ _ _ _ _ us hl => match us, hl with | [_, _, _], _ => rfl) (fun f cdv A outer sh H vs Q E hr h => ?_)
  · obtain ⟨a, ns, k, many, rfl, _⟩ := h
    rfl
  · obtain ⟨a, ns, k, many, rfl, hS, hl, hk, hm, kk⟩ := h
    refine ⟨_, pss_cons (ps_set (i := 3) scAd.nd rfl (Or.inl rfl) (pe_call GC hr rfl T.glaw_cell kC bC .nil pass0 (pa_cons (pv 0) (pa_cons (pv 1) pa_nil))))
      (pss_cons (ps_set (i := 4) scAd.nd rfl (Or.inl rfl) (pe_op op_mod (pe_call GC hr rfl T.glaw_cell kC bC .nil pass0 (pa_cons (pv 0) (pa_cons (pe_op op_add pe_int (pe_op op_mod (pe_op op_fdiv (pv 3) pe_int) pe_int)) pa_nil))) (pv 2)))
      (pss_cons (ps_set (i := 5) scAd.nd rfl (Or.inl rfl) (pe_ix ix_list (pe_lst (pa_cons pe_int (pa_cons pe_int (pa_cons pe_int (pa_cons pe_int (pa_cons pe_int pa_nil)))))) (pe_op op_mod (pe_call GC hr rfl T.glaw_cell kC bC .nil pass0 (pa_cons (pv 0) (pa_cons pe_int pa_nil))) pe_int) (fun _ _ => rfl)))
      (pss_cons (ps_set (i := 6) scAd.nd rfl (Or.inl rfl) (pe_op op_mod (pe_op op_add (pe_call GC hr rfl T.glaw_cell kC bC .nil pass0 (pa_cons (pv 0) (pa_cons pe_int pa_nil))) (pe_op op_mul (pv 5) (pe_op op_mod (pe_op op_fdiv (pv 3) pe_int) pe_int))) (pv 2)))
      (pss_one (ps_ret (pe_ix ix_list (pe_lst (pa_cons (pv 4) (pa_cons (pv 4) (pa_cons (pv 6) (pa_cons (pv 6) (pa_cons (pv 6) (pa_cons (pe_op op_mod (pe_op op_fdiv (pv 3) pe_int) (pv 2)) pa_nil)))))))
        (pe_op op_mod (pv 3) pe_int) (fun _ _ => rfl))))))), ?_⟩
    refine ⟨_, rfl, _, rfl, a, ns, k, rfl, hS, hl, (by omega), fun c H1 c0 c1 s1 => ?_⟩
    refine ⟨_, rfl, _, rfl, _, _, rfl, rfl, ⟨by decide, by decide⟩, _, _, rfl, rfl, (by show (0 : Int) < 4; decide), _, _, rfl, rfl, a, ns, (3 + c / 6 % 4).toNat, ?_, s1.seq hS, hl, (by omega), fun z2 H2 b0 b1 s2 => ?_⟩
    · show [V.ref a, V.int (3 + c / 6 % 4)] = _
      rw [Int.toNat_of_nonneg (by omega)]
    have hmany : (0 : Int) < (many : Int) := by omega
    refine ⟨_, rfl, _, _, rfl, rfl, hmany, ?_⟩
    refine ⟨(by show 5 ≤ sizeLine; decide), fun l hl1 => ?_⟩
    have s3 := same_new (.lst [V.int 4, V.int 8, V.int 16, V.int 1, V.int 2]) hl1
    refine ⟨_, rfl, a, ns, 7, rfl, s3.seq (s2.seq (s1.seq hS)), hl, (by omega), fun z3 H3 d0 d1 s4 => ?_⟩
    obtain ⟨v, hv, hvm⟩ := at_in (xs := [V.int 4, V.int 8, V.int 16, V.int 1, V.int 2]) (i := z3 % 5) (by omega) (by show z3 % 5 < 5; omega)
    obtain ⟨g, rfl, g0, g1⟩ : ∃ g, v = V.int g ∧ 0 ≤ g ∧ g < 100 := by
      simp at hvm
      rcases hvm with rfl | rfl | rfl | rfl | rfl
      · exact ⟨_, rfl, by decide, by decide⟩
      · exact ⟨_, rfl, by decide, by decide⟩
      · exact ⟨_, rfl, by decide, by decide⟩
      · exact ⟨_, rfl, by decide, by decide⟩
      · exact ⟨_, rfl, by decide, by decide⟩
    refine ⟨_, _, rfl, rfl, (by show (0 : Int) < 5; decide), l, _, _, _, rfl, rfl, SqL.of (s4 _ _ upd_same), hv, ?_⟩
    have sS := ((s1.trans s2).trans s3).trans s4
    refine ⟨_, rfl, a, ns, 3, rfl, sS.seq hS, hl, (by omega), fun z5 H5 h0 h1 s5 => ?_⟩
    refine ⟨_, rfl, _, rfl, _, _, rfl, rfl, ⟨by decide, by decide⟩, _, _, rfl, rfl, (by show (0 : Int) < 5; decide), _, _, rfl, rfl, .inl ⟨Int.lt_of_lt_of_le (by decide) g0, Int.lt_trans g1 (by decide)⟩, _, _, rfl, rfl, _, rfl, _, _, rfl, rfl, hmany, ?_⟩
    refine ⟨_, rfl, _, rfl, _, rfl, _, rfl, _, rfl, _, rfl, _, _, rfl, rfl, ⟨by decide, by decide⟩, _, rfl, _, _, rfl, rfl, hmany, (by show 6 ≤ sizeLine; decide), fun l6 hl6 => ?_⟩
    have s6 := same_new (.lst [V.int (z2 % many), V.int (z2 % many), V.int ((z5 + g * (c / 24 % 5)) % many), V.int ((z5 + g * (c / 24 % 5)) % many), V.int ((z5 + g * (c / 24 % 5)) % many), V.int (c / 24 % many)]) hl6
    obtain ⟨v, hv, hvm⟩ := at_in (xs := [V.int (z2 % many), V.int (z2 % many), V.int ((z5 + g * (c / 24 % 5)) % many), V.int ((z5 + g * (c / 24 % 5)) % many), V.int ((z5 + g * (c / 24 % 5)) % many), V.int (c / 24 % many)]) (i := c % 6) (by omega) (by show c % 6 < 6; omega)
    obtain ⟨x, rfl⟩ : ∃ x : Int, v = V.int (x % many) := by
      simp at hvm
      rcases hvm with rfl | rfl | rfl
      · exact ⟨_, rfl⟩
      · exact ⟨_, rfl⟩
      · exact ⟨_, rfl⟩
    refine ⟨_, rfl, _, _, rfl, rfl, (by show (0 : Int) < 6; decide), l6, _, _, _, rfl, rfl, SqL.of upd_same, hv, ?_⟩
    have x0 := Int.emod_nonneg x (show (many : Int) ≠ 0 by omega)
    have x1 := Int.emod_lt_of_pos x hmany
    have := kk (x % many).toNat _ (by omega) ((sS.trans s5).trans s6)
    rw [Int.toNat_of_nonneg x0] at this
    exact this
theorem scDb : FnScope ["_law_script", "_law_k", "_law_many", "_law_cell_here", "_law_word_here", "_law_some"] ["_law_script", "_law_k", "_law_many"] (defScope s_law_deed_by) := ⟨rfl, rfl, rfl, by decide +kernel, rfl, by decide +kernel, by decide +kernel⟩
theorem ok_deed_by (T : Tx K mg) : Ok P w K mg base 3 (He.ga K "_law_deed_by") ["_law_script", "_law_k", "_law_many"] (spDeedBy K) := by
  obtain ⟨fdC, GC, bC⟩ := ok_cell (P := P) (w := w) (base := base) T
  obtain ⟨fdA, GA, bA⟩ := ok_address (P := P) (w := w) (base := base) T
  have kC := (T.D_law_cell).choose_spec.kp
  have kA := (T.D_law_address).choose_spec.kp
  refine ok_by T.D_law_deed_by scDb (fun vs H Q E h => ?_) (fun _ _ _ _ _ _ us hl => match us, hl with | [_, _, _], _ => rfl) (fun f cdv A outer sh H vs Q E hr h => ?_)
  · obtain ⟨a, ns, k, many, rfl, _⟩ := h
    rfl
  · obtain ⟨a, ns, k, many, rfl, hS, hl, hk, hm, kk⟩ := h
    have hr1 : Room 1 _ := hr.mono (by decide)
    refine ⟨_, pss_cons (ps_set (i := 3) scDb.nd rfl (Or.inl rfl) (pe_call GC hr1 rfl T.glaw_cell kC bC .nil pass0 (pa_cons (pv 0) (pa_cons (pe_op op_add pe_int (pv 1)) pa_nil))))
      (pss_cons (ps_set (i := 4) scDb.nd rfl (Or.inl rfl) (pe_ix ix_list (pe_lst (pa_cons (pe_op op_mod (pe_op op_fdiv (pv 3) pe_int) pe_int) (pa_cons (pe_op op_mod (pe_op op_fdiv (pv 3) pe_int) pe_int) pa_nil))) (pe_op op_mod (pe_op op_fdiv (pv 3) pe_int) pe_int) (fun _ _ => rfl)))
      (pss_cons (ps_set (i := 5) scDb.nd rfl (Or.inl rfl) (pe_lst (pa_cons pe_str (pa_cons pe_str (pa_cons pe_str (pa_cons pe_str (pa_cons pe_str (pa_cons pe_str (pa_cons pe_str (pa_cons pe_str (pa_cons pe_str (pa_cons pe_str (pa_cons pe_str pa_nil)))))))))))))
      (pss_one (ps_ret (pe_tup (pa_cons (pe_ix ix_list (pv 5) (pe_op op_mod (pv 3) pe_int) (fun _ _ => rfl))
        (pa_cons (pe_call GA hr rfl T.glaw_address kA bA .nil pass0 (pa_cons (pv 0) (pa_cons (pe_op op_add pe_int (pv 1)) (pa_cons (pv 2) pa_nil)))) (pa_cons (pv 4) pa_nil)))))))), ?_⟩
    refine ⟨_, rfl, _, rfl, _, _, rfl, rfl, a, ns, 40 + k, ?_, hS, hl, (by omega), fun c H1 c0 c1 s1 => ?_⟩
    · show [V.ref a, V.int (40 + (k : Int))] = _
      rw [show (40 + (k : Int)) = ((40 + k : Nat) : Int) by omega]
    refine ⟨_, rfl, _, _, rfl, rfl, ⟨by decide, by decide⟩, _, _, rfl, rfl, (by show (0 : Int) < 65536; decide), _, rfl, _, _, rfl, rfl, ⟨by decide, by decide⟩, _, _, rfl, rfl, (by show (0 : Int) < 3; decide), (by show 2 ≤ sizeLine; decide), fun l1 h1 => ?_⟩
    have s2 := same_new (.lst [V.int (c / 11 % 65536), V.int (c / 11 % 3)]) h1
    obtain ⟨v, hv, hvm⟩ := at_in (xs := [V.int (c / 11 % 65536), V.int (c / 11 % 3)]) (i := c / 7 % 2) (by omega) (by show c / 7 % 2 < 2; omega)
    obtain ⟨g, rfl⟩ : ∃ g, v = V.int g := by
      simp at hvm
      rcases hvm with rfl | rfl
      · exact ⟨_, rfl⟩
      · exact ⟨_, rfl⟩
    refine ⟨_, rfl, _, _, rfl, rfl, ⟨by decide, by decide⟩, _, _, rfl, rfl, (by show (0 : Int) < 2; decide), l1, _, _, _, rfl, rfl, SqL.of upd_same, hv, ?_⟩
    refine ⟨(by show 11 ≤ sizeLine; decide), fun l2 h2 => ?_⟩
    have s3 := same_new (.lst [V.str "get", V.str "get", V.str "get", V.str "put", V.str "put", V.str "put", V.str "put", V.str "cost", V.str "look", V.str "look", V.str "settle"]) h2
    obtain ⟨v, hv2, hvm2⟩ := at_in (xs := [V.str "get", V.str "get", V.str "get", V.str "put", V.str "put", V.str "put", V.str "put", V.str "cost", V.str "look", V.str "look", V.str "settle"]) (i := c % 11) (by omega) (by show c % 11 < 11; omega)
    obtain ⟨d, rfl⟩ : ∃ d : Dd, v = V.str d.nm := by
      simp only [List.mem_cons, List.not_mem_nil, or_false] at hvm2
      rcases hvm2 with rfl | rfl | rfl | rfl | rfl | rfl | rfl | rfl | rfl | rfl | rfl
      · exact ⟨.get, rfl⟩
      · exact ⟨.get, rfl⟩
      · exact ⟨.get, rfl⟩
      · exact ⟨.put, rfl⟩
      · exact ⟨.put, rfl⟩
      · exact ⟨.put, rfl⟩
      · exact ⟨.put, rfl⟩
      · exact ⟨.cost, rfl⟩
      · exact ⟨.look, rfl⟩
      · exact ⟨.look, rfl⟩
      · exact ⟨.settle, rfl⟩
    have sS := (s1.trans s2).trans s3
    refine ⟨_, rfl, _, rfl, _, _, rfl, rfl, (by show (0 : Int) < 11; decide), l2, _, _, _, rfl, rfl, SqL.of upd_same, hv2, ?_⟩
    refine ⟨_, rfl, _, rfl, _, _, rfl, rfl, _, rfl, a, ns, 100 + k, many, ?_, sS.seq hS, hl, (by omega), hm, fun adr H4 ha s4 => ?_⟩
    · show [V.ref a, V.int (100 + (k : Int)), V.int many] = _
      rw [show (100 + (k : Int)) = ((100 + k : Nat) : Int) by omega]
    refine ⟨_, rfl, (by show 3 ≤ sizeLine; decide), fun tp ht => ?_⟩
    exact kk tp d adr g _ ((sS.trans s4).free ht) upd_same ha ((sS.trans s4).trans (same_new _ ht))
end
end RM

namespace RM
open PySem PySem.Spec PyProof.Rows L2
/-! ### the law's deeds and looks -/
theorem nm_eq (d e : Dd) : (V.str d.nm = V.str e.nm) ↔ d = e := by
  cases d <;> cases e <;> decide +kernel
theorem nm_scal (d : Dd) (z : Str) : scal (V.str d.nm) (V.str z) = true := rfl
def Dd.after : Dd → List Int → Nat → Int → List Int
  | .put, ws, a, v => ws.set a v
  | _, ws, _, _ => ws
/-- behind an asking or a put the line is first of its set -/
def First (S : Nat) (d : Dd) (a : Nat) (m : Mm) : Prop := (d = .get ∨ d = .put) → ∃ (l : Ln) (tl : List Ln), m.rooms[a / 4 % S]? = some (l :: tl) ∧ l.num = a / 4 ∧ (d = .put → l.ch = true)
/-- an asking and a look tell the word -/
def Told (d : Dd) (ws : List Int) (a : Nat) (v : V) : Prop := (d = .get ∨ d = .look) → ∃ z, ws[a]? = some z ∧ v = .int z
def spDid (K : PySem.W.Frag) : Sp := fun vs H Q _ => ∃ (p s tp : Addr) (m : Mm) (ω : Own) (t S L : Nat) (ws : List Int) (d : Dd) (a : Nat) (v : Int), vs = [.ref p, .ref tp] ∧ NearAt K H ω t p s m ∧ Sets S ∧ L ≤ 16 ∧ Good S L ws m ∧ Wf H ω ∧
  H tp = some (.tup [.str d.nm, .int a, .int v]) ∧ a < 4 * L ∧
  ∀ (x : V) (H' : Hp) (ω' : Own) (m' : Mm), NearAt K H' ω' t p s m' → Good S L (d.after ws a v) m' → First S d a m' → Told d ws a x → Frm t H H' ω ω' → Q x H'
def spWhole_ : Sp := fun vs H Q _ => ∃ i : Int, vs = [.int i, .int i] ∧ Q (.bl true) H
def spRows : Sp := fun vs H Q _ => ∃ (h : Addr) (rooms : List (List Ln)), vs = [.ref h] ∧ HeldAt H h rooms ∧ rooms.length ≤ 4 ∧ (∀ r ∈ rooms, r.length ≤ 2) ∧
  ∀ (R : Addr) (us : List Addr) (H' : Hp), H R = none → H' R = some (.lst (us.map V.ref)) → Paired (TripAt H') us rooms.flatten → Same H H' → Q (.ref R) H'
def spSetRight : Sp := fun vs H Q _ => ∃ (r : Addr) (j S : Nat) (ls : List Ln), vs = [.ref r, .int j, .int S] ∧ RowAt H r ls ∧ ls.length ≤ 2 ∧ (ls.map Ln.num).Nodup ∧ 0 < S ∧ (∀ l ∈ ls, l.num % S = j) ∧ ∀ H', Same H H' → Q (.bl true) H'
def spFirst (K : PySem.W.Frag) : Sp := fun vs H Q _ => ∃ (p s tp : Addr) (m : Mm) (ω : Own) (t S L : Nat) (ws : List Int) (d : Dd) (a : Nat) (v : Int), vs = [.ref p, .ref tp] ∧ NearAt K H ω t p s m ∧ Sets S ∧ L ≤ 16 ∧ Good S L ws m ∧
  H tp = some (.tup [.str d.nm, .int a, .int v]) ∧ a < 4 * L ∧ First S d a m ∧ ∀ H', Same H H' → Q (.bl true) H'
section
variable {P : Program} {w : World} {K : PySem.W.Frag} {mg : Str → Option Value} {base : Heap}
theorem scDi : FnScope ["_law_near", "_law_deed"] ["_law_near", "_law_deed"] (defScope s_law_did) := ⟨rfl, rfl, rfl, by decide +kernel, rfl, by decide +kernel, by decide +kernel⟩
theorem ok_did (T : Tx K mg) : Ok P w K mg base 6 (He.ga K "_law_did") ["_law_near", "_law_deed"] (spDid K) := by
  obtain ⟨fdG, GG, bG⟩ := ok_get (P := P) (w := w) (base := base) T
  obtain ⟨fdP, GP, bP⟩ := ok_put (P := P) (w := w) (base := base) T
  obtain ⟨fdC, GC, bC⟩ := ok_cost (P := P) (w := w) (base := base) T
  obtain ⟨fdL, GL, bL⟩ := ok_look (P := P) (w := w) (base := base) T
  obtain ⟨fdS, GS, bS⟩ := ok_settle (P := P) (w := w) (base := base) T
  refine ok_by T.D_law_did scDi (fun vs H Q E h => ?_) (fun _ _ _ _ _ _ us hl => match us, hl with | [_, _], _ => rfl) (fun f cdv A outer sh H vs Q E hr h => ?_)
  · obtain ⟨p, s, tp, m, ω, t, S, L, ws, d, a, v, rfl, _⟩ := h
    rfl
  · obtain ⟨p, s, tp, m, ω, t, S, L, ws, d, a, v, rfl, N, hS, hL, g, wf, ht, ha, k⟩ := h
    have hr3 : Room 3 _ := hr.mono (by decide)
    have hr4 : Room 4 _ := hr.mono (by decide)
    refine ⟨_, pss_cons (ps_if (pt_cmpR op_eq (pe_ix ix_tup (pv 1) pe_int (fun _ _ => rfl)) pe_str (nomark _)) (pss_one (ps_ret (pe_meth (pv 0) T.cNear T.mNear_get GG hr bG .nil pass0 (pa_cons (pe_ix ix_tup (pv 1) pe_int (fun _ _ => rfl)) pa_nil)))) pss_nil)
      (pss_cons (ps_if (pt_cmpR op_eq (pe_ix ix_tup (pv 1) pe_int (fun _ _ => rfl)) pe_str (nomark _)) (pss_one (ps_ret (pe_meth (pv 0) T.cNear T.mNear_put GP hr bP .nil pass0 (pa_cons (pe_ix ix_tup (pv 1) pe_int (fun _ _ => rfl)) (pa_cons (pe_ix ix_tup (pv 1) pe_int (fun _ _ => rfl)) pa_nil))))) pss_nil)
      (pss_cons (ps_if (pt_cmpR op_eq (pe_ix ix_tup (pv 1) pe_int (fun _ _ => rfl)) pe_str (nomark _)) (pss_one (ps_ret (pe_meth (pv 0) T.cNear T.mNear_cost GC hr3 bC .nil pass0 (pa_cons (pe_ix ix_tup (pv 1) pe_int (fun _ _ => rfl)) pa_nil)))) pss_nil)
      (pss_cons (ps_if (pt_cmpR op_eq (pe_ix ix_tup (pv 1) pe_int (fun _ _ => rfl)) pe_str (nomark _)) (pss_one (ps_ret (pe_meth (pv 0) T.cNear T.mNear_look GL hr3 bL .nil pass0 (pa_cons (pe_ix ix_tup (pv 1) pe_int (fun _ _ => rfl)) pa_nil)))) pss_nil)
      (pss_one (ps_ret (pe_meth0 (pv 0) T.cNear T.mNear_settle GS hr4 bS .nil pass0)))))), ?_⟩
    obtain ⟨y, Ny⟩ := id N
    have a0 : atI [V.str d.nm, V.int a, V.int v] 0 = some (V.str d.nm) := at_of (j := 0) rfl rfl
    have a1 : atI [V.str d.nm, V.int a, V.int v] 1 = some (V.int a) := at_of (j := 1) rfl rfl
    have a2 : atI [V.str d.nm, V.int a, V.int v] 2 = some (V.int v) := at_of (j := 2) rfl rfl
    have no : ∀ {e : Dd} {z : Str}, d ≠ e → e.nm = z → ¬ V.str d.nm = V.str z := fun {e z} h he q => h ((nm_eq d e).mp (by rw [he]; exact q))
    have ye : ∀ {e : Dd} {z : Str}, d = e → e.nm = z → V.str d.nm = V.str z := fun {e z} h he => by rw [h, he]
    refine ⟨_, rfl, tp, _, _, _, rfl, rfl, SqT.of ht, a0, rfl, _, rfl, ?_⟩
    by_cases d1 : d = .get
    · refine iteD (ye d1 rfl) ?_
      refine ⟨_, rfl, p, y.dx, _, rfl, Ny.pp, nf_no _ _ (by decide +kernel) (by decide +kernel), _, rfl, tp, _, _, _, rfl, rfl, SqT.of ht, a1, p, s, m, ω, t, S, L, ws, a, rfl, N, hS, hL, g, ha, fun z H' ω' hz N' F => ?_⟩
      obtain ⟨g', l, tl, h1, h2⟩ := good_come hS.pos g (n := a / 4) (by omega)
      refine k _ H' ω' _ N' ?_ (fun _ => ⟨l, tl, h1, h2, fun e => by rw [d1] at e; cases e⟩) (fun _ => ⟨z, hz, rfl⟩) F
      rw [d1]
      exact g'
    refine iteDF (no d1 rfl) ?_
    refine ⟨_, rfl, tp, _, _, _, rfl, rfl, SqT.of ht, a0, rfl, _, rfl, ?_⟩
    by_cases d2 : d = .put
    · refine iteD (ye d2 rfl) ?_
      refine ⟨_, rfl, p, y.dx, _, rfl, Ny.pp, nf_no _ _ (by decide +kernel) (by decide +kernel), _, rfl, tp, _, _, _, rfl, rfl, SqT.of ht, a1, _, rfl, tp, _, _, _, rfl, rfl, SqT.of ht, a2, p, s, m, ω, t, S, L, ws, a, v, rfl, N, hS, hL, g, ha, fun H' ω' N' F => ?_⟩
      obtain ⟨g', l, tl, h1, h2⟩ := good_come hS.pos g (n := a / 4) (by omega)
      obtain ⟨g2, h3⟩ := good_put hS.pos g' (w := v) h1 h2 (by omega)
      refine k _ H' ω' _ N' ?_ (fun _ => ⟨_, tl, h3, h2, fun _ => rfl⟩) (fun e => ?_) F
      · rw [d2]
        exact g2
      · rw [d2] at e
        rcases e with e | e <;> cases e
    refine iteDF (no d2 rfl) ?_
    refine ⟨_, rfl, tp, _, _, _, rfl, rfl, SqT.of ht, a0, rfl, _, rfl, ?_⟩
    have hf : First S d a m := fun e => by
      rcases e with e | e
      · exact absurd e d1
      · exact absurd e d2
    have hg : Good S L (d.after ws a v) m := by
      cases d with
      | put => exact absurd rfl d2
      | _ => exact g
    by_cases d3 : d = .cost
    · refine iteD (ye d3 rfl) ?_
      have hn : ∀ x, Told d ws a x := fun x e => by
        rw [d3] at e
        rcases e with e | e <;> cases e
      refine ⟨_, rfl, p, y.dx, _, rfl, Ny.pp, nf_no _ _ (by decide +kernel) (by decide +kernel), _, rfl, tp, _, _, _, rfl, rfl, SqT.of ht, a1, p, s, m, ω, t, S, L, ws, a, rfl, N, hS, hL, g, ha, fun _ => ?_, fun _ z => ?_⟩
      · exact k _ H ω m N hg hf (hn _) (Frm.refl _ _ _)
      · exact k _ H ω m N hg hf (hn _) (Frm.refl _ _ _)
    refine iteDF (no d3 rfl) ?_
    refine ⟨_, rfl, tp, _, _, _, rfl, rfl, SqT.of ht, a0, rfl, _, rfl, ?_⟩
    by_cases d4 : d = .look
    · refine iteD (ye d4 rfl) ?_
      refine ⟨_, rfl, p, y.dx, _, rfl, Ny.pp, nf_no _ _ (by decide +kernel) (by decide +kernel), _, rfl, tp, _, _, _, rfl, rfl, SqT.of ht, a1, p, s, m, ω, t, S, L, ws, a, rfl, N, hS, hL, g, ha, fun z H' hz sm => ?_⟩
      exact k _ H' ω m (N.same sm) hg hf (fun _ => ⟨z, hz, rfl⟩) (Frm.same sm)
    refine iteDF (no d4 rfl) ?_
    refine ⟨_, rfl, p, y.dx, _, rfl, Ny.pp, nf_no _ _ (by decide +kernel) (by decide +kernel), p, s, m, ω, t, S, L, ws, rfl, N, hS, hL, g, wf, fun H' ω' m' N' g' F => ?_⟩
    refine k _ H' ω' m' N' ?_ (fun e => ?_) (fun e => ?_) F
    · cases d with
      | put => exact absurd rfl d2
      | _ => exact g'
    · rcases e with e | e
      · exact absurd e d1
      · exact absurd e d2
    · rcases e with e | e
      · exact absurd e d1
      · exact absurd e d4
theorem scWo : FnScope ["_law_found", "_law_due"] ["_law_found", "_law_due"] (defScope s_law_whole) := ⟨rfl, rfl, rfl, by decide +kernel, rfl, by decide +kernel, by decide +kernel⟩
theorem ok_lwhole (T : Tx K mg) : Ok P w K mg base 1 (He.ga K "_law_whole") ["_law_found", "_law_due"] spWhole_ := by
  refine ok_by T.D_law_whole scWo (fun vs H Q E h => ?_) (fun _ _ _ _ _ _ us hl => match us, hl with | [_, _], _ => rfl) (fun f cdv A outer sh H vs Q E hr h => ?_)
  · obtain ⟨i, rfl, _⟩ := h
    rfl
  · obtain ⟨i, rfl, k⟩ := h
    refine ⟨_, pss_one (ps_ret (pe_and (pe_callB call_isi (by rfl) T.fisinstance bo_isi (pa_cons (pv 0) (pa_cons (pe_bltn (v := .ty "int") (by rfl) T.fint bo_int rfl) pa_nil)))
      (pe_and (pe_not (pe_callB call_isi (by rfl) T.fisinstance bo_isi (pa_cons (pv 0) (pa_cons (pe_bltn (v := .ty "bool") (by rfl) T.fbool bo_bool rfl) pa_nil))))
      (pe_one (pe_cmpR op_eq (pv 0) (pv 1) (nomark _)))))), ?_⟩
    refine ⟨_, rfl, _, _, _, _, true, rfl, .ty "int", .base (.int _), kit_ty (by decide +kernel), _, rfl, ?_⟩
    refine ⟨_, rfl, _, _, _, _, false, rfl, .ty "bool", .base (.int _), kit_ty (by decide +kernel), _, rfl, _, rfl, ?_⟩
    refine ⟨_, rfl, _, rfl, rfl, ?_⟩
    show Q (.bl (decide (V.int i = V.int i))) H
    rw [decide_eq_true rfl]
    exact k
theorem scRw : FnScope ["_law_held", "_law_rows_here", "_law_room"] ["_law_held"] (defScope s_law_rows) := ⟨rfl, rfl, rfl, by decide +kernel, rfl, by decide +kernel, by decide +kernel⟩
theorem Paired.app {α β : Type} {F : α → β → Prop} : ∀ {a c : List α} {b d : List β}, Paired F a b → Paired F c d → Paired F (a ++ c) (b ++ d)
  | _, _, _, _, .nil, q => q
  | _, _, _, _, .cons h t, q => .cons h (Paired.app t q)
theorem flat_len : ∀ {rooms : List (List Ln)} {i : Nat}, (∀ r ∈ rooms, r.length ≤ 2) → (rooms.take i).flatten.length ≤ 2 * i
  | [], i, _ => by simp
  | r :: rs, 0, _ => by simp
  | r :: rs, i + 1, h => by
    have ih := flat_len (rooms := rs) (i := i) fun q hq => h q (List.mem_cons_of_mem _ hq)
    have h1 := h r List.mem_cons_self
    rw [List.take_succ_cons, List.flatten_cons, List.length_append]
    omega
theorem ok_rows (T : Tx K mg) : Ok P w K mg base 1 (He.ga K "_law_rows") ["_law_held"] spRows := by
  refine ok_by T.D_law_rows scRw (fun vs H Q E h => ?_) (fun _ _ _ _ _ _ us hl => match us, hl with | [_], _ => rfl) (fun f cdv A outer sh H vs Q E hr h => ?_)
  · obtain ⟨h0, rooms, rfl, _⟩ := h
    rfl
  · obtain ⟨h0, rooms, rfl, ⟨rs, hh, pr⟩, hl4, h2, k⟩ := h
    refine ⟨_, pss_cons (ps_set (i := 1) scRw.nd rfl (Or.inl rfl) (pe_lst pa_nil))
      (pss_cons (ps_for PassesOwn.never rfl (pi_tup (pv 0)) (pg_name (i := 2) scRw.nd rfl (Or.inl rfl))
        (pss_one (ps_set (i := 1) scRw.nd rfl (Or.inl rfl) (pe_op op_cat (pv 1) (pe_callTy call_list_of (by rfl) T.flist bo_list (pa_cons (pv 2) pa_nil))))))
      (pss_one (ps_ret (pv 1)))), ?_⟩
    have el : rs.length = rooms.length := Paired.length pr
    refine ⟨Nat.zero_le _, fun l0 hl0 => ?_⟩
    have s0 := same_new (.lst []) hl0
    refine ⟨_, rfl, h0, rfl, ⟨_, SqT.of (s0 _ _ hh)⟩, for_tup (K := K) (a := h0) (xs := rs.map V.ref)
      (fun i σ H1 => ∃ (R : Addr) (v : Option V) (us : List Addr), σ = [some (.ref h0), some (.ref R), v] ∧ Same H H1 ∧ H R = none ∧ H1 R = some (.lst (us.map V.ref)) ∧ Paired (TripAt H1) us (rooms.take i).flatten) ?_ (fun i σ H1 _ ⟨_, _, _, _, sm, _⟩ => SqT.of (sm _ _ hh)) ?_ ?_⟩
    · refine ⟨l0, none, [], rfl, s0, hl0, upd_same, ?_⟩
      rw [List.take_zero]
      exact .nil
    · rintro i v σ H1 hi ⟨R, v2, us, rfl, sm, nR, hR, pu⟩
      obtain ⟨b, hb, rfl⟩ := map_ix hi
      obtain ⟨ls, hls⟩ := Paired.left pr hb
      obtain ⟨ts, ht, pt⟩ := (Paired.get pr hb hls).same sm
      have lu := Paired.length pu
      have lt := Paired.length pt
      have h3 := flat_len (i := i) h2
      have hi4 : i < 4 := by have := (List.getElem?_eq_some_iff.mp hb).1; omega
      have h5 := h2 ls (List.mem_of_getElem? hls)
      refine ⟨_, rfl, _, rfl, b, _, rfl, .inr (SqT.of ht), fun l1 hl1 => ?_⟩
      have s1 := same_new (.lst (ts.map V.ref)) hl1
      refine ⟨R, l1, _, _, rfl, rfl, s1 _ _ hR, upd_same, ?_, fun l2 hl2 => ?_⟩
      · rw [List.length_map, List.length_map]
        exact Nat.le_trans (show _ ≤ 100 by omega) (by decide)
      have s2 := same_new (.lst (us.map V.ref ++ ts.map V.ref)) hl2
      refine ⟨l2, _, us ++ ts, rfl, (sm.trans s1).trans s2, (sm.trans s1).free hl2, ?_, ?_⟩
      · rw [upd_same, List.map_append]
      · rw [take_snoc hls, List.flatten_append, List.flatten_cons, List.flatten_nil, List.append_nil]
        exact Paired.app (Paired.mem2 pu fun _ _ _ z => (z.same s1).same s2) (Paired.mem2 pt fun _ _ _ z => (z.same s1).same s2)
    · rintro σ H1 ⟨R, v2, us, rfl, sm, nR, hR, pu⟩
      rw [List.length_map, List.take_of_length_le (by omega)] at pu
      exact ⟨_, rfl, k R us H1 nR hR pu sm⟩
theorem scSR : FnScope ["_law_room", "_law_place", "_law_sets", "_law_numbers", "_law_row", "_law_number"] ["_law_room", "_law_place", "_law_sets"] (defScope s_law_set_right) := ⟨rfl, rfl, rfl, by decide +kernel, rfl, by decide +kernel, by decide +kernel⟩
theorem ok_set_right (T : Tx K mg) : Ok P w K mg base 1 (He.ga K "_law_set_right") ["_law_room", "_law_place", "_law_sets"] spSetRight := by
  refine ok_by T.D_law_set_right scSR (fun vs H Q E h => ?_) (fun _ _ _ _ _ _ us hl => match us, hl with | [_, _, _], _ => rfl) (fun f cdv A outer sh H vs Q E hr h => ?_)
  · obtain ⟨r, j, S, ls, rfl, _⟩ := h
    rfl
  · obtain ⟨r, j, S, ls, rfl, ⟨us, hr', pu⟩, h2, nd, hS, hj, k⟩ := h
    refine ⟨_, pss_cons (ps_setLc (i := 3) (own := [("_law_row", 4)]) (g := gName 4) (tt := tYes) (te := tOp (rIxT K) (tVar 4) (tC (.int 0))) (by rfl) scSR.nd rfl rfl (sw_true rfl rfl rfl (by decide +kernel)) (pi_tup (pv 0))
        (blkOk_by (N := ["_law_room", "_law_place", "_law_sets", "_law_numbers", "_law_row", "_law_number"]) (sc := defScope s_law_set_right) (by decide +kernel))
        (fun _ _ _ _ _ => pg_name (i := 4) scSR.nd rfl (Or.inl rfl)) (fun _ _ _ _ _ => pts_nil) (fun _ _ _ _ _ => pe_ix ix_tup (pv 4) pe_int (fun _ _ => rfl)))
      (pss_cons (ps_if (PW.pt (pw_or (pt_cmpR op_gt (pe_callB call_len_seq (by rfl) T.flen bo_len (pa_cons (pv 0) pa_nil)) pe_int (nomark _))
          (pw_or1 (pt_cmpR op_ne (RZ.pe_lenSetI rfl T.flen rfl T.fset (pv 3)) (pe_callB call_len_seq (by rfl) T.flen bo_len (pa_cons (pv 3) pa_nil)) (nomark _))))) (pss_one (ps_ret pe_bl)) pss_nil)
      (pss_one (ps_ret (pe_cmpR (op_eqD hr.units) (pe_lc (own := [("_law_number", 5)]) (g := gName 5) rfl scSR.nd (pi_list (pv 3)) (blkOk_by (N := ["_law_room", "_law_place", "_law_sets", "_law_numbers", "_law_row", "_law_number"]) (sc := defScope s_law_set_right) (by decide +kernel))
          (fun _ _ _ _ _ => pg_name (i := 5) scSR.nd rfl (Or.inl rfl)) (fun _ _ _ _ _ => pts_one (pt_cmpR op_ne (pe_op op_mod (pv 5) (pv 2)) (pv 1) (nomark _))) (fun _ _ _ _ _ => pv 5)) (pe_lst pa_nil) (nomark _))))), ?_⟩
    have lu := Paired.length pu
    refine ⟨_, rfl, r, rfl, ⟨_, SqT.of hr'⟩, fun D hD => lc_tup (K := K) (a := r) (xs := us.map V.ref) (fun i H1 => Same H H1 ∧ H1 D = some (.lst (((ls.take i).map fun l => (l.num : Int)).map V.int))) ?_ (fun i H1 _ ⟨sm, _⟩ => SqT.of (sm _ _ hr')) ?_ ?_⟩
    · exact ⟨same_new _ hD, upd_same⟩
    · rintro i v H1 hi ⟨sm, hd⟩
      obtain ⟨b, hb, rfl⟩ := map_ix hi
      obtain ⟨l, hl⟩ := Paired.left pu hb
      obtain ⟨q, b1, _⟩ := (Paired.get pu hb hl).same sm
      refine ⟨rfl, _, rfl, b, _, _, _, rfl, rfl, SqT.of b1, at_of (j := 0) rfl rfl, _, hd, ?_, fun c o ec => ?_, ?_⟩
      · rw [List.length_map, List.length_map, List.length_take]
        exact Nat.lt_of_le_of_lt (show _ ≤ 2 by omega) (by decide)
      · rw [upd_ne (ne_of_none ec hD)]
        exact sm c o ec
      · rw [upd_same, take_snoc hl, List.map_append, List.map_append]
        rfl
    rintro H1 ⟨sm, hd⟩
    rw [List.length_map, List.take_of_length_le (by omega)] at hd
    have ndI : (ls.map fun l => (l.num : Int)).Nodup := by
      have e : (ls.map fun l => (l.num : Int)) = (ls.map Ln.num).map fun n : Nat => (n : Int) := by rw [List.map_map]; rfl
      rw [e]
      unfold List.Nodup at nd ⊢
      rw [List.pairwise_map]
      exact nd.imp fun h z => h (by omega)
    refine ⟨_, rfl, r, _, rfl, .inr (SqT.of (sm _ _ hr')), _, _, rfl, rfl, _, rfl, iteDF (by rw [List.length_map]; omega) ?_⟩
    refine ⟨_, rfl, D, _, rfl, SqL.of hd, ndI, (by rw [List.length_map]; omega), ?_⟩
    refine ⟨_, rfl, D, _, rfl, .inl (SqL.of hd), rfl, _, rfl, iteNS (by rw [List.length_map, List.length_map, List.length_map]) ?_⟩
    refine ⟨_, rfl, D, rfl, ⟨_, SqL.of hd⟩, fun D2 hD2 => lc_list (K := K) (a := D) (xs := (ls.map fun l => (l.num : Int)).map V.int) (fun i H2 => Same H1 H2 ∧ H2 D2 = some (.lst [])) ?_ (fun i H2 _ ⟨s2, _⟩ => SqL.of (s2 _ _ hd)) ?_ ?_⟩
    · exact ⟨same_new _ hD2, upd_same⟩
    · rintro i v H2 hi ⟨s2, hd2⟩
      obtain ⟨z, hz, rfl⟩ := map_ix hi
      obtain ⟨l, hlm, rfl⟩ := List.mem_map.mp (List.mem_of_getElem? hz)
      refine ⟨rfl, _, rfl, _, rfl, _, _, rfl, rfl, (by show (0 : Int) < (S : Int); omega), _, rfl, rfl, _, rfl, iteNS ?_ ⟨s2, hd2⟩⟩
      have := hj l hlm
      show V.int ((l.num : Int) % (S : Int)) = V.int (j : Int)
      rw [show (l.num : Int) % (S : Int) = ((l.num % S : Nat) : Int) by omega, this]
    · rintro H2 ⟨s2, hd2⟩
      refine ⟨Nat.zero_le _, fun l3 h3 => ?_⟩
      have s3 := same_new (.lst []) h3
      refine ⟨.list [], .list [], .lst (SqL.of (s3 _ _ hd2)) .nil, .lst (SqL.of upd_same) .nil, shape_ints [], shape_ints [], ?_⟩
      exact k _ ((sm.trans s2).trans s3)
theorem scFi : FnScope ["_law_near", "_law_deed", "_law_held", "_law_room"] ["_law_near", "_law_deed"] (defScope s_law_first) := ⟨rfl, rfl, rfl, by decide +kernel, rfl, by decide +kernel, by decide +kernel⟩
theorem ok_first (T : Tx K mg) : Ok P w K mg base 4 (He.ga K "_law_first") ["_law_near", "_law_deed"] (spFirst K) := by
  obtain ⟨fdH, GH, bH⟩ := ok_held (P := P) (w := w) (base := base) T
  obtain ⟨fdC, GC, bC⟩ := ok_cost (P := P) (w := w) (base := base) T
  refine ok_by T.D_law_first scFi (fun vs H Q E h => ?_) (fun _ _ _ _ _ _ us hl => match us, hl with | [_, _], _ => rfl) (fun f cdv A outer sh H vs Q E hr h => ?_)
  · obtain ⟨p, s, tp, m, ω, t, S, L, ws, d, a, v, rfl, _⟩ := h
    rfl
  · obtain ⟨p, s, tp, m, ω, t, S, L, ws, d, a, v, rfl, N, hS, hL, g, ht, ha, hf, k⟩ := h
    have hr2 : Room 2 _ := hr.mono (by decide)
    refine ⟨_, pss_cons (ps_if (pt_cmpR op_notIn_seq (pe_ix ix_tup (pv 1) pe_int (fun _ _ => rfl)) (pe_tup (pa_cons pe_str (pa_cons pe_str pa_nil))) (by rfl)) (pss_one (ps_ret pe_bl)) pss_nil)
      (pss_cons (ps_set (i := 2) scFi.nd rfl (Or.inl rfl) (pe_meth0 (pv 0) T.cNear T.mNear_held GH hr2 bH .nil pass0))
      (pss_cons (ps_set (i := 3) scFi.nd rfl (Or.inl rfl) (pe_ix ix_tup (pv 2) (pe_op op_mod (pe_op op_fdiv (pe_ix ix_tup (pv 1) pe_int (fun _ _ => rfl)) pe_int) (pe_callB call_len_seq (by rfl) T.flen bo_len (pa_cons (pv 2) pa_nil))) (fun _ _ => rfl)))
      (pss_one (ps_ret (pe_and (pe_cmpR op_eq (pe_ix ix_tup (pe_ix ix_tup (pv 3) pe_int (fun _ _ => rfl)) pe_int (fun _ _ => rfl)) (pe_op op_fdiv (pe_ix ix_tup (pv 1) pe_int (fun _ _ => rfl)) pe_int) (nomark _))
        (pe_and (pe_cmpR op_eq (pe_meth (pv 0) T.cNear T.mNear_cost GC hr bC .nil pass0 (pa_cons (pe_ix ix_tup (pv 1) pe_int (fun _ _ => rfl)) pa_nil)) pe_int (nomark _))
        (pe_one (pe_or (pe_cmpR op_eq (pe_ix ix_tup (pv 1) pe_int (fun _ _ => rfl)) pe_str (nomark _)) (pe_one (pe_cmpR op_isBl (pe_ix ix_tup (pe_ix ix_tup (pv 3) pe_int (fun _ _ => rfl)) pe_int (fun _ _ => rfl)) pe_bl (nomark _))))))))))), ?_⟩
    obtain ⟨y, Ny⟩ := id N
    have a0 : atI [V.str d.nm, V.int a, V.int v] 0 = some (V.str d.nm) := at_of (j := 0) rfl rfl
    have a1 : atI [V.str d.nm, V.int a, V.int v] 1 = some (V.int a) := at_of (j := 1) rfl rfl
    have hin : inV (V.str d.nm) [V.str "get", V.str "put"] = decide (d = .get ∨ d = .put) := by
      cases d <;> decide +kernel
    refine ⟨_, rfl, tp, _, _, _, rfl, rfl, SqT.of ht, a0, (by show 2 ≤ sizeLine; decide), fun t2 h2 => ⟨t2, _, rfl, .inr (SqT.of upd_same), rfl, rfl, !decide (d = .get ∨ d = .put), (by rw [hin]; rfl), ?_⟩⟩
    have s1 := same_new (.tup [V.str "get", V.str "put"]) h2
    by_cases hd : d = .get ∨ d = .put
    · refine iteNS hd ?_
      obtain ⟨l, tl, hr0, hn, hc⟩ := hf hd
      refine ⟨_, rfl, p, y.dx, _, rfl, s1 _ _ Ny.pp, nf_no _ _ (by decide +kernel) (by decide +kernel), p, s, m, ω, t, S, L, ws, rfl, N.same s1, hS, g, fun h H2 ⟨rs, hh, pr⟩ s2 => ?_⟩
      have s12 := s1.trans s2
      have lr := Paired.length pr
      obtain ⟨b, hb⟩ := Paired.right pr hr0
      obtain ⟨us, hu, pu⟩ := Paired.get pr hb hr0
      cases pu with
      | cons z zs =>
        rename_i u0 us0
        obtain ⟨q, q1, q2⟩ := z
        have eS : (a : Int) / 4 % ((rs.map V.ref).length : Int) = ((a / 4 % S : Nat) : Int) := by
          rw [List.length_map, lr, g.len, show (a : Int) / 4 = ((a / 4 : Nat) : Int) by omega]
          omega
        refine ⟨_, rfl, _, rfl, tp, _, _, _, rfl, rfl, SqT.of (s12 _ _ ht), a1, _, _, rfl, rfl, ⟨by decide, by decide⟩, _, rfl, h, _, rfl, .inr (SqT.of hh), _, _, rfl, rfl, (by rw [List.length_map, lr, g.len]; have := hS.pos; omega),
          h, _, _, _, rfl, rfl, SqT.of hh, at_of (v := V.ref b) eS (by rw [List.getElem?_map, hb]; rfl), ?_⟩
        refine ⟨_, rfl, b, _, _, V.ref u0, rfl, rfl, SqT.of hu, at_of (j := 0) rfl rfl, u0, _, _, V.int l.num, rfl, rfl, SqT.of q1, at_of (j := 0) rfl rfl, _, rfl, tp, _, _, _, rfl, rfl, SqT.of (s12 _ _ ht), a1, _, _, rfl, rfl, ⟨by decide, by decide⟩, rfl, _, rfl, ?_⟩
        refine iteD (by rw [hn]; congr 1) ?_
        refine ⟨_, rfl, p, y.dx, _, rfl, s12 _ _ Ny.pp, nf_no _ _ (by decide +kernel) (by decide +kernel), _, rfl, tp, _, _, _, rfl, rfl, SqT.of (s12 _ _ ht), a1, p, s, m, ω, t, S, L, ws, a, rfl, N.same s12, hS, hL, g, ha, fun _ => ?_, fun no => ?_⟩
        · refine ⟨rfl, _, rfl, ?_⟩
          refine ⟨_, rfl, tp, _, _, _, rfl, rfl, SqT.of (s12 _ _ ht), a0, rfl, _, rfl, ?_⟩
          by_cases d1 : d = .get
          · refine iteD (by rw [d1]; rfl) ?_
            exact k _ s12
          · refine iteDF (fun z => d1 ((nm_eq d .get).mp z)) ?_
            refine ⟨_, rfl, b, _, _, V.ref u0, rfl, rfl, SqT.of hu, at_of (j := 0) rfl rfl, u0, _, _, V.bl l.ch, rfl, rfl, SqT.of q1, at_of (j := 2) rfl rfl, l.ch, true, rfl, rfl, ?_⟩
            have hch : l.ch = true := hc (hd.resolve_left d1)
            rw [hch]
            exact k _ s12
        · have er : roomOf m (a / 4) = l :: tl := Option.some.inj ((room_some hS.pos g (a / 4)).symm.trans hr0)
          exact absurd hn (no l (by rw [er]; exact List.mem_cons_self))
    · refine iteNT hd ?_
      exact k _ s1
end
end RM

namespace RM
open PySem PySem.Spec PyProof.Rows L2
/-! ### the lines are right -/
theorem inV_ints (n : Int) : ∀ l : List Int, inV (.int n) (l.map V.int) = decide (n ∈ l)
  | [] => by simp [inV]
  | a :: l => by
    have ih := inV_ints n l
    unfold inV at ih ⊢
    rw [List.map_cons, List.any_cons, ih]
    show ((a == n) || decide (n ∈ l)) = decide (n ∈ a :: l)
    by_cases e : a = n
    · subst e
      simp
    · have e2 : ¬ n = a := fun z => e z.symm
      simp [e, e2]
theorem flat_ints : ∀ l : List Int, (l.map V.int).all flatV = true
  | [] => rfl
  | a :: l => by
    rw [List.map_cons, List.all_cons, flat_ints l]
    rfl
def spLines (K : PySem.W.Frag) : Sp := fun vs H Q _ => ∃ (p s W : Addr) (m : Mm) (ω : Own) (t S L : Nat) (ws : List Int), vs = [.ref p, .ref s, .ref W] ∧ NearAt K H ω t p s m ∧ Sets S ∧ L ≤ 16 ∧ Good S L ws m ∧ H W = some (.lst (ws.map V.int)) ∧ ∀ H', Same H H' → Q (.bl true) H'
def teLR (K : PySem.W.Frag) : TE := tCall spSetRight [] E0 (tCons (tOp (rIxT K) (tVar 3) (tVar 9)) (tCons (tVar 9) (tCons (tCB (fun xs H Q => ∃ p ys, xs = [.ref p] ∧ (SqL K H p ys ∨ SqT K H p ys) ∧ Q (.int ys.length) H) (tCons (tVar 3) tNil)) tNil)))
abbrev nLR : List Str := ["_law_near", "_law_slow", "_law_words_here", "_law_held", "_law_row", "_law_changed", "_law_whole_here", "_law_number", "_law_at", "_law_place"]
section
variable {P : Program} {w : World} {K : PySem.W.Frag} {mg : Str → Option Value} {base : Heap}
theorem scLR : FnScope nLR ["_law_near", "_law_slow", "_law_words_here"] (defScope s_law_lines_right) := ⟨rfl, rfl, rfl, by decide +kernel, rfl, by decide +kernel, by decide +kernel⟩
theorem ok_lines (T : Tx K mg) : Ok P w K mg base 3 (He.ga K "_law_lines_right") ["_law_near", "_law_slow", "_law_words_here"] (spLines K) := by
  obtain ⟨fdH, GH, bH⟩ := ok_held (P := P) (w := w) (base := base) T
  obtain ⟨fdR, GR, bR⟩ := ok_rows (P := P) (w := w) (base := base) T
  obtain ⟨fdS, GS, bS⟩ := ok_set_right (P := P) (w := w) (base := base) T
  obtain ⟨fdW, GW, bW⟩ := ok_whole (P := P) (w := w) (base := base) T
  have kR := (T.D_law_rows).choose_spec.kp
  have kS := (T.D_law_set_right).choose_spec.kp
  refine ok_by T.D_law_lines_right scLR (fun vs H Q E h => ?_) (fun _ _ _ _ _ _ us hl => match us, hl with | [_, _, _], _ => rfl) (fun f cdv A outer sh H vs Q E hr h => ?_)
  · obtain ⟨p, s, W, m, ω, t, S, L, ws, rfl, _⟩ := h
    rfl
  · obtain ⟨p, s, W, m, ω, t, S, L, ws, rfl, N, hS, hL, g, hW, k⟩ := h
    have hr1 : Room 1 _ := hr.mono (by decide)
    refine ⟨_, pss_cons (ps_set (i := 3) scLR.nd rfl (Or.inr rfl) (pe_meth0 (pv 0) T.cNear T.mNear_held GH hr bH .nil pass0))
      (pss_cons (ps_if (pt_not (pt_val (pe_callB (cr_all rfl) (by rfl) T.fall bo_all (pa_cons
          (pe_lc (own := [("_law_place", 9)]) (g := gName 9) (tt := tYes) (te := teLR K) rfl scLR.nd (pi_range1 rfl T.frange (pa_cons (pe_callB call_len_seq (by rfl) T.flen bo_len (pa_cons (pv 3) pa_nil)) pa_nil)) (blkOk_by (N := nLR) (sc := defScope s_law_lines_right) (by decide +kernel))
            (fun _ _ _ _ _ => pg_name (i := 9) scLR.nd rfl (Or.inl rfl)) (fun _ _ _ _ _ => pts_nil)
            (fun _ _ _ _ _ => pe_call GS hr1 rfl T.glaw_set_right kS bS .nil pass0 (pa_cons (pe_ix ix_tup (pv 3) (pv 9) (fun _ _ => rfl)) (pa_cons (pv 9) (pa_cons (pe_callB call_len_seq (by rfl) T.flen bo_len (pa_cons (pv 3) pa_nil)) pa_nil))))) pa_nil)))) (pss_one (ps_ret pe_bl)) pss_nil)
      (pss_cons (ps_setLc (i := 5) (own := [("_law_row", 4)]) (g := gName 4) (tt := tB (tOp (rIxT K) (tVar 4) (tC (.int 2)))) (te := tOp (rIxT K) (tVar 4) (tC (.int 0))) (by rfl) scLR.nd rfl rfl (sw_true rfl rfl rfl (by decide +kernel))
          (pi_list (pe_call GR hr1 rfl T.glaw_rows kR bR .nil pass0 (pa_cons (pv 3) pa_nil))) (blkOk_by (N := nLR) (sc := defScope s_law_lines_right) (by decide +kernel))
          (fun _ _ _ _ _ => pg_name (i := 4) scLR.nd rfl (Or.inl rfl)) (fun _ _ _ _ _ => pts_one (pt_val (pe_ix ix_tup (pv 4) pe_int (fun _ _ => rfl)))) (fun _ _ _ _ _ => pe_ix ix_tup (pv 4) pe_int (fun _ _ => rfl)))
      (pss_cons (ps_for PassesOwn.never rfl (pi_list (pe_call GR hr1 rfl T.glaw_rows kR bR .nil pass0 (pa_cons (pv 3) pa_nil))) (pg_name (i := 4) scLR.nd rfl (Or.inl rfl))
          (pss_one (ps_if (pt_cmpR (op_neD hr.units) (pe_callTy call_list_of (by rfl) T.flist bo_list (pa_cons (pe_ix ix_tup (pv 4) pe_int (fun _ _ => rfl)) pa_nil))
            (pe_slice sl_list (pv 2) (po_some (pe_op op_mul pe_int (pe_ix ix_tup (pv 4) pe_int (fun _ _ => rfl)))) (po_some (pe_op op_add (pe_op op_mul pe_int (pe_ix ix_tup (pv 4) pe_int (fun _ _ => rfl))) pe_int))) (nomark _)) (pss_one (ps_ret pe_bl)) pss_nil)))
      (pss_cons (ps_set (i := 6) scLR.nd rfl (Or.inl rfl) (pe_meth0 (pv 1) T.cSlow T.mSlow_whole GW hr1 bW .nil pass0))
      (pss_cons (ps_for PassesOwn.never rfl (pi_range1 rfl T.frange (pa_cons (pe_op op_fdiv (pe_callB call_len_seq (by rfl) T.flen bo_len (pa_cons (pv 2) pa_nil)) pe_int) pa_nil)) (pg_name (i := 7) scLR.nd rfl (Or.inl rfl))
          (pss_cons (ps_set (i := 8) scLR.nd rfl (Or.inl rfl) (pe_op op_mul pe_int (pv 7)))
          (pss_one (ps_if (PW.pt (pw_and (pt_cmpR op_notIn_seq (pv 7) (pv 5) (by rfl)) (pw_and1 (pt_cmpR (op_neD hr.units) (pe_slice sl_list (pv 6) (po_some (pv 8)) (po_some (pe_op op_add (pv 8) pe_int)))
            (pe_slice sl_list (pv 2) (po_some (pv 8)) (po_some (pe_op op_add (pv 8) pe_int))) (nomark _))))) (pss_one (ps_ret pe_bl)) pss_nil))))
      (pss_one (ps_ret pe_bl))))))), ?_⟩
    obtain ⟨y, Ny⟩ := id N
    have hpos := hS.pos
    have hS4 := hS.le
    have h2 : ∀ r ∈ m.rooms, r.length ≤ 2 := fun r hr => by
      obtain ⟨j, hj⟩ := List.mem_iff_getElem?.mp hr
      exact (g.two j r hj).1
    have fl8 : m.rooms.flatten.length ≤ 8 := by
      have := flat_len (i := m.rooms.length) h2
      rw [List.take_length] at this
      rw [g.len] at this
      omega
    -- _law_held
    refine ⟨_, rfl, p, y.dx, _, rfl, Ny.pp, nf_no _ _ (by decide +kernel) (by decide +kernel), p, s, m, ω, t, S, L, ws, rfl, N, hS, g, fun h H1 hh s1 => ?_⟩
    obtain ⟨rs, hh0, pr⟩ := id hh
    have lr : rs.length = S := by rw [Paired.length pr, g.len]
    -- all(..)
    refine ⟨_, rfl, h, _, rfl, .inr (SqT.of hh0), ((rs.map V.ref).length : Int), rfl, (by omega), (by rw [List.length_map]; omega), fun D hD => lc_range (lo := 0) (n := (rs.map V.ref).length)
      (fun i H2 => Same H1 H2 ∧ H2 D = some (.lst ((List.replicate i true).map V.bl))) ?_ ?_ ?_⟩
    · exact ⟨same_new _ hD, upd_same⟩
    · rintro i H2 hi ⟨s2, hd⟩
      rw [List.length_map, lr] at hi
      obtain ⟨b, hb⟩ : ∃ b, rs[i]? = some b := ⟨_, List.getElem?_eq_getElem (by omega)⟩
      obtain ⟨ls, hls⟩ := Paired.left pr hb
      have hrow := (Paired.get pr hb hls).same s2
      refine ⟨rfl, _, rfl, _, rfl, h, _, _, V.ref b, rfl, rfl, SqT.of (s2 _ _ hh0), at_of (j := i) (by omega) (by rw [List.getElem?_map, hb]; rfl), _, rfl, _, rfl, h, _, rfl, .inr (SqT.of (s2 _ _ hh0)), b, i, S, ls, ?_, hrow, (g.two _ _ hls).1, (g.two _ _ hls).2, hpos, fun l hl => (g.at_ _ _ l hls hl).1, fun H3 s3 => ?_⟩
      · show [V.ref b, V.int (0 + (i : Int)), V.int ((rs.map V.ref).length : Int)] = _
        rw [List.length_map, lr, Int.zero_add]
      refine ⟨_, s3 _ _ hd, ?_, fun c o ec => ?_, ?_⟩
      · rw [List.length_map, List.length_replicate]
        exact Nat.lt_of_lt_of_le (show i < 4 by omega) (by decide)
      · rw [upd_ne (ne_of_none ec hD)]
        exact s3 _ _ (s2 c o ec)
      · rw [upd_same, List.replicate_succ', List.map_append]
        rfl
    rintro H2 ⟨s2, hd⟩
    refine ⟨D, List.replicate (rs.map V.ref).length true, rfl, SqL.of hd, true, (by rw [show (List.replicate (rs.map V.ref).length true).all id = true by simp]), iteF ?_⟩
    -- _law_changed
    have hh2 := hh.same s2
    refine ⟨_, rfl, h, m.rooms, rfl, hh2, (by rw [g.len]; exact hS4), h2, fun R us H3 nR hR pu s3 => ?_⟩
    refine ⟨R, rfl, ⟨_, SqL.of hR⟩, fun D2 hD2 => lc_list (K := K) (a := R) (xs := us.map V.ref)
      (fun i H4 => Same H3 H4 ∧ H4 D2 = some (.lst ((((m.rooms.flatten.take i).filter fun l => l.ch).map fun l => (l.num : Int)).map V.int))) ?_ (fun i H4 _ ⟨s4, _⟩ => SqL.of (s4 _ _ hR)) ?_ ?_⟩
    · exact ⟨same_new _ hD2, upd_same⟩
    · rintro i v H4 hi ⟨s4, hd4⟩
      obtain ⟨u, hu, rfl⟩ := map_ix hi
      obtain ⟨l, hl⟩ := Paired.left pu hu
      obtain ⟨q, q1, q2⟩ := (Paired.get pu hu hl).same s4
      refine ⟨rfl, _, rfl, u, _, _, V.bl l.ch, rfl, rfl, SqT.of q1, at_of (j := 2) rfl rfl, l.ch, rfl, ite2 (fun hc => ?_) (fun hc => ?_)⟩
      · refine ⟨_, rfl, u, _, _, V.int l.num, rfl, rfl, SqT.of q1, at_of (j := 0) rfl rfl, _, hd4, ?_, fun c o ec => ?_, ?_⟩
        · rw [List.length_map, List.length_map]
          have h5 := List.length_filter_le (fun l : Ln => l.ch) (m.rooms.flatten.take i)
          have h6 : (m.rooms.flatten.take i).length ≤ 8 := by rw [List.length_take]; omega
          exact Nat.lt_of_le_of_lt (Nat.le_trans h5 h6) (by decide)
        · rw [upd_ne (ne_of_none ec hD2)]
          exact s4 c o ec
        · rw [upd_same, take_snoc hl, List.filter_append, List.filter_cons_of_pos hc, List.filter_nil, List.map_append, List.map_append]
          rfl
      · refine ⟨s4, ?_⟩
        rw [take_snoc hl, List.filter_append, List.filter_cons_of_neg hc, List.filter_nil, List.append_nil]
        exact hd4
    rintro H4 ⟨s4, hd4⟩
    rw [List.length_map, Paired.length pu, List.take_length] at hd4
    -- the held lines
    have s04 := ((s1.trans s2).trans s3).trans s4
    refine ⟨_, rfl, h, m.rooms, rfl, hh2.same (s3.trans s4), (by rw [g.len]; exact hS4), h2, fun R2 us2 H5 nR2 hR2 pu2 s5 => ?_⟩
    have s05 := s04.trans s5
    refine ⟨R2, rfl, ⟨_, SqL.of hR2⟩, for_list (K := K) (a := R2) (xs := us2.map V.ref)
      (fun _ σ H6 => (∃ v4 : Option V, σ = [some (.ref p), some (.ref s), some (.ref W), some (.ref h), v4, some (.ref D2), none, none, none, none]) ∧ Same H5 H6) ⟨⟨none, rfl⟩, Same.refl _⟩ (fun _ σ H6 _ ⟨_, s6⟩ => SqL.of (s6 _ _ hR2)) ?_ ?_⟩
    · rintro i v σ H6 hi ⟨⟨v4, rfl⟩, s6⟩
      obtain ⟨u, hu, rfl⟩ := map_ix hi
      obtain ⟨l, hl⟩ := Paired.left pu2 hu
      obtain ⟨q, q1, q2⟩ := (Paired.get pu2 hu hl).same s6
      obtain ⟨ls, hls, hlm⟩ := List.mem_flatten.mp (List.mem_of_getElem? hl)
      obtain ⟨j, hj⟩ := List.mem_iff_getElem?.mp hls
      obtain ⟨c1, c2, c3⟩ := g.at_ j ls l hj hlm
      refine ⟨_, rfl, u, _, _, V.ref q, rfl, rfl, SqT.of q1, at_of (j := 1) rfl rfl, q, _, rfl, .inr (SqT.of q2), fun l1 hl1 => ?_⟩
      have s7 := same_new (.lst (l.ws.map V.int)) hl1
      refine ⟨_, rfl, _, rfl, u, _, _, V.int l.num, rfl, rfl, SqT.of (s7 _ _ q1), at_of (j := 0) rfl rfl, _, _, rfl, rfl, .inl ⟨by decide, by decide⟩, _, rfl,
        _, rfl, u, _, _, V.int l.num, rfl, rfl, SqT.of (s7 _ _ q1), at_of (j := 0) rfl rfl, _, _, rfl, rfl, .inl ⟨by decide, by decide⟩, _, _, rfl, rfl, _, rfl, W, _, rfl, SqL.of (s7 _ _ (s6 _ _ (s05 _ _ hW))), fun l2 hl2 => ?_⟩
      rw [cut_four ws _ _ l.num (by rw [g.wl]; omega) (by omega) (by omega)]
      have s8 := same_new (.lst ((four ws l.num).map V.int)) hl2
      refine ⟨.list (l.ws.map PyData.int), .list ((four ws l.num).map PyData.int), .lst (SqL.of (s8 _ _ upd_same)) (dp_ints _), .lst (SqL.of upd_same) (dp_ints _), shape_ints _, shape_ints _, false, (by rw [c3, eqv_ints]; rfl), iteF ?_⟩
      exact ⟨⟨_, rfl⟩, (s6.trans s7).trans s8⟩
    rintro σ H6 ⟨⟨v4, rfl⟩, s6⟩
    have s06 := s05.trans s6
    -- the slow memory's words
    refine ⟨_, rfl, s, y.dxs, _, rfl, s06 _ _ Ny.ss, sf_no _ _ _ (by decide +kernel) (by decide +kernel) (by decide +kernel), s, y.dxs, y.c, y.rd, y.wr, _, rfl, s06 _ _ Ny.ss, s06 _ _ Ny.cc, fun l6 hl6 => ?_⟩
    have s7 := same_new (.lst (m.cells.map V.int)) hl6
    have s07 := s06.trans s7
    have hd7 := s7 _ _ (s6 _ _ (s5 _ _ hd4))
    have hl7 : upd H6 l6 (.lst (m.cells.map V.int)) l6 = some (.lst (m.cells.map V.int)) := upd_same
    generalize upd H6 l6 (.lst (m.cells.map V.int)) = H7 at s7 s07 hd7 hl7
    have eL : (((ws.map V.int).length : Int) / 4).toNat = L := by rw [List.length_map, g.wl]; omega
    refine ⟨_, rfl, W, _, rfl, .inl (SqL.of (s07 _ _ hW)), _, _, rfl, rfl, ⟨by decide, by decide⟩, (((ws.map V.int).length : Int) / 4), rfl, (by omega), (by rw [List.length_map, g.wl]; omega), for_range (lo := 0) (n := (((ws.map V.int).length : Int) / 4).toNat)
      (fun _ σ H8 => (∃ v7 v8 : Option V, σ = [some (.ref p), some (.ref s), some (.ref W), some (.ref h), v4, some (.ref D2), some (.ref l6), v7, v8, none]) ∧ Same H7 H8) ⟨⟨none, none, rfl⟩, Same.refl _⟩ ?_ ?_⟩
    · rintro n σ H8 hn ⟨⟨v7, v8, rfl⟩, s8⟩
      rw [eL] at hn
      refine ⟨_, rfl, _, _, rfl, rfl, .inl ⟨by decide, by decide⟩, ?_⟩
      refine ⟨_, rfl, _, rfl, D2, _, rfl, .inl (SqL.of (s8 _ _ hd7)), rfl, flat_ints _, !decide ((0 + (n : Int)) ∈ (m.rooms.flatten.filter fun l => l.ch).map fun l => (l.num : Int)), (by rw [inV_ints]; rfl), ?_⟩
      by_cases hin : (0 + (n : Int)) ∈ (m.rooms.flatten.filter fun l => l.ch).map fun l => (l.num : Int)
      · exact iteNS hin (iteF ⟨⟨_, _, rfl⟩, s8⟩)
      refine iteNT hin ?_
      have hf : four m.cells n = four ws n := by
        refine g.out n hn fun j q o hq ho eo => ?_
        cases hc : o.ch with
        | false => rfl
        | true =>
          refine absurd (List.mem_map.mpr ⟨o, List.mem_filter.mpr ⟨List.mem_flatten.mpr ⟨q, List.mem_of_getElem? hq, ho⟩, hc⟩, ?_⟩) hin
          rw [eo, Int.zero_add]
      refine ⟨_, rfl, _, rfl, _, rfl, _, rfl, _, _, rfl, rfl, _, rfl, l6, _, rfl, SqL.of (s8 _ _ hl7), fun x1 hx1 => ?_⟩
      rw [cut_four m.cells _ _ n (by rw [g.cl]; omega) (by omega) (by omega)]
      have t1 := same_new (.lst ((four m.cells n).map V.int)) hx1
      refine ⟨_, rfl, _, rfl, _, rfl, _, rfl, _, _, rfl, rfl, _, rfl, W, _, rfl, SqL.of (t1 _ _ (s8 _ _ (s07 _ _ hW))), fun x2 hx2 => ?_⟩
      rw [cut_four ws _ _ n (by rw [g.wl]; omega) (by omega) (by omega)]
      have t2 := same_new (.lst ((four ws n).map V.int)) hx2
      refine ⟨.list ((four m.cells n).map PyData.int), .list ((four ws n).map PyData.int), .lst (SqL.of (t2 _ _ upd_same)) (dp_ints _), .lst (SqL.of upd_same) (dp_ints _), shape_ints _, shape_ints _, false, (by rw [hf, eqv_ints]; rfl), iteF ?_⟩
      exact ⟨⟨_, _, rfl⟩, (s8.trans t1).trans t2⟩
    · rintro σ H8 ⟨⟨v7, v8, rfl⟩, s8⟩
      exact k _ (s07.trans s8)
end
end RM

namespace RM
open PySem PySem.Spec PyProof.Rows L2
/-! ### the law -/
def St : Nat → Nat
  | 0 => 1
  | 1 => 2
  | _ => 4
theorem St_sets (t : Nat) : Sets (St t) := by
  match t with
  | 0 => exact .inl rfl
  | 1 => exact .inr (.inl rfl)
  | t + 2 => exact .inr (.inr rfl)
theorem St_at {i : Nat} (h : i < 3) : atI [V.int 1, V.int 2, V.int 4] (0 + (i : Int)) = some (V.int (St i)) := by
  match i, h with
  | 0, _ => exact at_of (j := 0) rfl rfl
  | 1, _ => exact at_of (j := 1) rfl rfl
  | 2, _ => exact at_of (j := 2) rfl rfl
/-- what nobody owns is as it was -/
def Quiet (H H' : Hp) (ω ω' : Own) : Prop := ∀ b o, H b = some o → ω b = none → H' b = some o ∧ ω' b = none
theorem Frm.quiet {t : Nat} {H H' : Hp} {ω ω' : Own} (F : Frm t H H' ω ω') : Quiet H H' ω ω' := fun b o h n => ⟨F.keep b o h (fun k e => by rw [n] at e; cases e), (F.own b o h).trans n⟩
theorem Quiet.same {H H' : Hp} {ω : Own} (s : Same H H') : Quiet H H' ω ω := fun b o h n => ⟨s b o h, n⟩
theorem Quiet.trans {H H1 H2 : Hp} {ω ω1 ω2 : Own} (a : Quiet H H1 ω ω1) (b : Quiet H1 H2 ω1 ω2) : Quiet H H2 ω ω2 := fun c o h n =>
  let ⟨e1, e2⟩ := a c o h n
  b c o e1 e2
theorem Kp.free {P : Kd → Prop} {t : Nat} {H : Hp} {ω : Own} {a : Addr} (o : HO) (h : ω a = none) : Kp P t H (L2.upd H a o) ω ω := fun b k u _ h1 h2 =>
  ⟨by rw [upd_ne fun z => by rw [z, h] at h1; cases h1]; exact h2, h1⟩
theorem Wf.put {H : Hp} {ω : Own} (w : Wf H ω) (a : Addr) (o : HO) : Wf (upd H a o) ω := fun b e => by
  by_cases z : b = a
  · rw [z, upd_same] at e
    cases e
  · rw [upd_ne z] at e
    exact w b e
theorem Wf.same {H H' : Hp} {ω : Own} (w : Wf H ω) (s : Same H H') : Wf H' ω := fun b e => w b (s.free e)
/-- the script -/
def KL (K : PySem.W.Frag) (a : Addr) (xs : List V) : Prop := ∃ (o : Obj) (its : Array Value) (n : Nat), K.lookup a = some o ∧ o.cls = .type "list" ∧ o.dict = none ∧ o.data = .seq its n ∧ its.size ≤ sizeLine ∧ Vals xs its.toList
def Scr (K : PySem.W.Frag) (H : Hp) (ω : Own) (W a : Addr) (xs : List V) : Prop := (Rd H a (.lst xs) ∧ ω a = none ∧ a ≠ W) ∨ KL K a xs
theorem Scr.seq {K : PySem.W.Frag} {H : Hp} {ω : Own} {W a : Addr} {xs : List V} (s : Scr K H ω W a xs) : SqL K H a xs := by
  rcases s with ⟨h, _⟩ | h
  · exact .inl h
  · exact .inr h
theorem Scr.quiet {K : PySem.W.Frag} {H H' : Hp} {ω ω' : Own} {W a : Addr} {xs : List V} (q : Quiet H H' ω ω') (s : Scr K H ω W a xs) : Scr K H' ω' W a xs := by
  rcases s with ⟨h, n, d⟩ | h
  · rcases h with h | ⟨o, h⟩
    · obtain ⟨e1, e2⟩ := q _ _ h n
      exact .inl ⟨.inl e1, e2, d⟩
    · obtain ⟨e1, e2⟩ := q _ _ h n
      exact .inl ⟨.inr ⟨o, e1⟩, e2, d⟩
  · exact .inr h
theorem Scr.put {K : PySem.W.Frag} {H : Hp} {ω : Own} {W a : Addr} {xs : List V} (s : Scr K H ω W a xs) (o : HO) : Scr K (upd H W o) ω W a xs := by
  rcases s with ⟨h, n, d⟩ | h
  · refine .inl ⟨?_, n, d⟩
    rcases h with h | ⟨u, h⟩
    · exact .inl (by rw [upd_ne d]; exact h)
    · exact .inr ⟨u, by rw [upd_ne d]; exact h⟩
  · exact .inr h
theorem ne_refs_ints {as : List Addr} {ns : List Int} (h : as ≠ []) : HO.lst (as.map V.ref) ≠ HO.lst (ns.map V.int) := by
  intro e
  injection e with e
  match as, ns, h, e with
  | a :: as, n :: ns, _, e =>
    injection e with e1 _
    cases e1
/-- a slow memory that was just made -/
def SlowNew (K : PySem.W.Frag) (H : Hp) (ω : Own) (t : Nat) (s : Addr) (ws : List Int) : Prop := ∃ dx c, H s = some (.ins (CS K) dx (sf c 0 0)) ∧ ω s = some (t, .slow) ∧ H c = some (.lst (ws.map V.int)) ∧ ω c = some (t, .cells)
theorem SlowNew.mono {K : PySem.W.Frag} {H H' : Hp} {ω ω' : Own} {t : Nat} {s : Addr} {ws : List Int} (x : SlowNew K H ω t s ws) (k : Kp All t H H' ω ω') : SlowNew K H' ω' t s ws := by
  obtain ⟨dx, c, h1, h2, h3, h4⟩ := x
  obtain ⟨e1, e2⟩ := k _ _ _ trivial h2 h1
  obtain ⟨e3, e4⟩ := k _ _ _ trivial h4 h3
  exact ⟨dx, c, e1, e2, e3, e4⟩
def markRs (ω : Own) (t : Nat) : List Addr → Nat → Own
  | [], _ => ω
  | r :: rs, j => ownF (markRs ω t rs (j + 1)) r (t, .room j)
theorem markRs_at {ω : Own} {t : Nat} : ∀ {rs : List Addr} {i j : Nat} {r : Addr}, rs.Nodup → rs[i]? = some r → markRs ω t rs j r = some (t, .room (j + i))
  | [], _, _, _, _, h => by simp at h
  | x :: rs, 0, j, r, _, h => by
    simp at h
    subst h
    exact own_same
  | x :: rs, i + 1, j, r, nd, h => by
    rw [List.nodup_cons] at nd
    have h' : rs[i]? = some r := by simpa using h
    have ne : r ≠ x := fun z => nd.1 (by rw [← z]; exact List.mem_of_getElem? h')
    unfold markRs
    rw [own_ne ne, markRs_at nd.2 h']
    congr 3
    omega
theorem markRs_ne {ω : Own} {t : Nat} {b : Addr} : ∀ {rs : List Addr} {j : Nat}, ¬ b ∈ rs → markRs ω t rs j b = ω b
  | [], _, _ => rfl
  | x :: rs, j, h => by
    rw [List.mem_cons, not_or] at h
    unfold markRs
    rw [own_ne h.1, markRs_ne h.2]
theorem Frm.markRs {t : Nat} {H H' : Hp} {ω ω' : Own} (F : Frm t H H' ω ω') : ∀ (rs : List Addr) (j : Nat), (∀ r ∈ rs, H r = none ∧ ∃ o, H' r = some o) → Frm t H H' ω (markRs ω' t rs j)
  | [], _, _ => F
  | r :: rs, j, h => Frm.mark _ (Frm.markRs F rs (j + 1) fun x hx => h x (List.mem_cons_of_mem _ hx)) (h r List.mem_cons_self).1 (h r List.mem_cons_self).2
theorem Frm.kp' {t t' : Nat} {H H' : Hp} {ω ω' : Own} (F : Frm t H H' ω ω') (s : Same H H') : Kp All t' H H' ω ω' := fun b k o _ h1 h2 => ⟨s b o h2, (F.own b o h2).trans h1⟩
abbrev nLaw : List Str := ["_law_script", "_law_many", "_law_words_here", "_law_turn", "_law_slows", "_law_nears", "_law_k", "_law_deed", "_law_found"]
def teSlow (K : PySem.W.Frag) : TE := tMake (CS K) (spSlowInit K) [] E0 (tCons (tCB (fun xs H Q => ∃ p ys, xs = [.ref p] ∧ (SqL K H p ys ∨ SqT K H p ys) ∧ ∀ l, H l = none → Q (.ref l) (upd H l (.lst ys))) (tCons (tVar 2) tNil)) tNil)
def te124 : TE := tLst (tCons (tC (.int 1)) (tCons (tC (.int 2)) (tCons (tC (.int 4)) tNil)))
def teNear (K : PySem.W.Frag) : TE := tMake (CN K) (spNearInit K) [] E0 (tCons (tOp (rIxL K) (tVar 4) (tVar 3)) (tCons (tOp (rIxL K) te124 (tVar 3)) tNil))
def teEnd (K : PySem.W.Frag) : TE := tOp rEq (tCB (fun xs H Q => ∃ p ys, xs = [.ref p] ∧ (SqL K H p ys ∨ SqT K H p ys) ∧ Q (.int ys.length) H) (tCons (tMeth (CN K) "held" (spHeld K) [] E0 (tOp (rIxL K) (tVar 5) (tVar 3)) tNil) tNil)) (tOp (rIxL K) te124 (tVar 3))
/-- the state between two deeds -/
structure Wld (K : PySem.W.Frag) (a W SL NL : Addr) (ns : List Int) (ss ps : List Addr) (L : Nat) (H : Hp) (ω : Own) (wW : List Int) (ws : Nat → List Int) : Prop where
  scr : Scr K H ω W a (ns.map V.int)
  wd : H W = some (.lst (wW.map V.int))
  wo : ω W = none
  sl : H SL = some (.lst (ss.map V.ref))
  so : ω SL = none
  nl : H NL = some (.lst (ps.map V.ref))
  no : ω NL = none
  wf : Wf H ω
  near : ∀ (t : Nat) (p s : Addr), ps[t]? = some p → ss[t]? = some s → ∃ m, NearAt K H ω t p s m ∧ Good (St t) L (ws t) m
section
variable {K : PySem.W.Frag} {a W SL NL : Addr} {ns : List Int} {ss ps : List Addr} {L : Nat} {H H' : Hp} {ω ω' : Own} {wW : List Int} {ws : Nat → List Int}
theorem Wld.same (x : Wld K a W SL NL ns ss ps L H ω wW ws) (s : Same H H') : Wld K a W SL NL ns ss ps L H' ω wW ws :=
  ⟨x.scr.quiet (Quiet.same s), s _ _ x.wd, x.wo, s _ _ x.sl, x.so, s _ _ x.nl, x.no, x.wf.same s, fun t p q h1 h2 => let ⟨m, N, g⟩ := x.near t p q h1 h2; ⟨m, N.same s, g⟩⟩
theorem Wld.deed (x : Wld K a W SL NL ns ss ps L H ω wW ws) {i : Nat} {p s : Addr} {m : Mm} {w' : List Int} (F : Frm i H H' ω ω') (hp : ps[i]? = some p) (hs : ss[i]? = some s) (N : NearAt K H' ω' i p s m) (g : Good (St i) L w' m) :
    Wld K a W SL NL ns ss ps L H' ω' wW (fun t => if t = i then w' else ws t) := by
  have q := F.quiet
  refine ⟨x.scr.quiet q, (q _ _ x.wd x.wo).1, (q _ _ x.wd x.wo).2, (q _ _ x.sl x.so).1, (q _ _ x.sl x.so).2, (q _ _ x.nl x.no).1, (q _ _ x.nl x.no).2, F.wf x.wf, fun t p1 s1 h1 h2 => ?_⟩
  by_cases e : t = i
  · subst e
    have e1 : p1 = p := Option.some.inj (h1.symm.trans hp)
    have e2 : s1 = s := Option.some.inj (h2.symm.trans hs)
    subst e1 e2
    refine ⟨m, N, ?_⟩
    simp only [if_pos rfl]
    exact g
  · obtain ⟨m1, N1, g1⟩ := x.near t p1 s1 h1 h2
    refine ⟨m1, N1.mono (F.kp e), ?_⟩
    simp only [if_neg e]
    exact g1
theorem Wld.put (x : Wld K a W SL NL ns ss ps L H ω wW ws) (hss : ss ≠ []) (hps : ps ≠ []) (w' : List Int) : Wld K a W SL NL ns ss ps L (L2.upd H W (.lst (w'.map V.int))) ω w' ws := by
  have h1 : SL ≠ W := ne_of x.sl x.wd (ne_refs_ints hss)
  have h2 : NL ≠ W := ne_of x.nl x.wd (ne_refs_ints hps)
  refine ⟨x.scr.put _, upd_same, x.wo, by rw [upd_ne h1]; exact x.sl, x.so, by rw [upd_ne h2]; exact x.nl, x.no, x.wf.put _ _, fun t p s e1 e2 => ?_⟩
  obtain ⟨m, N, g⟩ := x.near t p s e1 e2
  exact ⟨m, N.mono (Kp.free _ x.wo), g⟩
theorem Wld.words (x : Wld K a W SL NL ns ss ps L H ω wW ws) {w' : Nat → List Int} (h : ∀ t, t < ps.length → w' t = ws t) : Wld K a W SL NL ns ss ps L H ω wW w' :=
  ⟨x.scr, x.wd, x.wo, x.sl, x.so, x.nl, x.no, x.wf, fun t p s e1 e2 => let ⟨m, N, g⟩ := x.near t p s e1 e2; ⟨m, N, by rw [h t (List.getElem?_eq_some_iff.mp e1).1]; exact g⟩⟩
end
def spLaw (K : PySem.W.Frag) : Sp := fun vs H Q _ => ∃ (a : Addr) (ns : List Int), vs = [.ref a] ∧ SqL K H a (ns.map V.int) ∧ ns.length ≤ 63 ∧ ∀ H', Q (.bl true) H'
section
variable {P : Program} {w : World} {K : PySem.W.Frag} {mg : Str → Option Value} {base : Heap}
theorem scLaw : FnScope nLaw ["_law_script"] (defScope s_law) := ⟨rfl, rfl, rfl, by decide +kernel, rfl, by decide +kernel, by decide +kernel⟩
theorem ok_law (T : Tx K mg) {f : Addr} {fd : FuncData} (F : FunD K "law" "law" (defArgs s_law) (defBody s_law) (defScope s_law) [] [] f fd) : FnOk P w K mg base CX0 7 f fd ["_law_script"] (spLaw K) := by
  obtain ⟨fdC, GC, bC⟩ := ok_cell (P := P) (w := w) (base := base) T
  obtain ⟨fdW, GW, bW⟩ := ok_words (P := P) (w := w) (base := base) T
  obtain ⟨fdSI, GSI, bSI⟩ := ok_SlowInit (P := P) (w := w) (base := base) T
  obtain ⟨fdNI, GNI, bNI⟩ := ok_NearInit (P := P) (w := w) (base := base) T
  obtain ⟨fdB, GB, bB⟩ := ok_deed_by (P := P) (w := w) (base := base) T
  obtain ⟨fdD, GD, bD⟩ := ok_did (P := P) (w := w) (base := base) T
  obtain ⟨fdO, GO, bO⟩ := ok_lwhole (P := P) (w := w) (base := base) T
  obtain ⟨fdF, GF, bF⟩ := ok_first (P := P) (w := w) (base := base) T
  obtain ⟨fdL, GL, bL⟩ := ok_lines (P := P) (w := w) (base := base) T
  obtain ⟨fdH, GH, bH⟩ := ok_held (P := P) (w := w) (base := base) T
  have kC := (T.D_law_cell).choose_spec.kp
  have kW := (T.D_law_words).choose_spec.kp
  have kB := (T.D_law_deed_by).choose_spec.kp
  have kD := (T.D_law_did).choose_spec.kp
  have kO := (T.D_law_whole).choose_spec.kp
  have kF := (T.D_law_first).choose_spec.kp
  have kL := (T.D_law_lines_right).choose_spec.kp
  refine F.ok scLaw (fun vs H Q E h => ?_) (fun cdv A outer sh H vs Q E hr h => ?_)
  · obtain ⟨a, ns, rfl, _⟩ := h
    rfl
  · obtain ⟨a, ns, rfl, hS, hlen, k⟩ := h
    have hr1 : Room 1 _ := hr.mono (by decide)
    have hr2 : Room 2 _ := hr.mono (by decide)
    have hr3 : Room 3 _ := hr.mono (by decide)
    have hr4 : Room 4 _ := hr.mono (by decide)
    refine ⟨_, PSs.nox (pss_cons (ps_set (i := 1) scLaw.nd rfl (Or.inl rfl) (pe_op op_add pe_int (pe_op op_mul pe_int (pe_op op_mod (pe_call GC hr1 rfl T.glaw_cell kC bC .nil pass0 (pa_cons (pv 0) (pa_cons pe_int pa_nil))) pe_int))))
      (pss_cons (ps_set (i := 2) scLaw.nd rfl (Or.inr rfl) (pe_call GW hr2 rfl T.glaw_words kW bW .nil pass0 (pa_cons (pv 0) (pa_cons pe_int (pa_cons (pv 1) pa_nil)))))
      (pss_cons (ps_set (i := 4) scLaw.nd rfl (Or.inr rfl) (pe_lc (own := [("_law_turn", 3)]) (g := gName 3) (tt := tYes) (te := teSlow K) rfl scLaw.nd (pi_range1 rfl T.frange (pa_cons pe_int pa_nil)) (blkOk_by (N := nLaw) (sc := defScope s_law) (by decide +kernel))
          (fun _ _ _ _ _ => pg_name (i := 3) scLaw.nd rfl (Or.inl rfl)) (fun _ _ _ _ _ => pts_nil)
          (fun _ _ _ _ _ => pe_make T.kSlow GSI hr2 rfl T.gSlow bSI .nil pass0 (pa_cons (pe_callTy call_list_of (by rfl) T.flist bo_list (pa_cons (pv 2) pa_nil)) pa_nil))))
      (pss_cons (ps_set (i := 5) scLaw.nd rfl (Or.inr rfl) (pe_lc (own := [("_law_turn", 3)]) (g := gName 3) (tt := tYes) (te := teNear K) rfl scLaw.nd (pi_range1 rfl T.frange (pa_cons pe_int pa_nil)) (blkOk_by (N := nLaw) (sc := defScope s_law) (by decide +kernel))
          (fun _ _ _ _ _ => pg_name (i := 3) scLaw.nd rfl (Or.inl rfl)) (fun _ _ _ _ _ => pts_nil)
          (fun _ _ _ _ _ => pe_make T.kNear GNI hr2 rfl T.gNear bNI .nil pass0 (pa_cons (pe_ix ix_list (pv 4) (pv 3) (fun _ _ => rfl)) (pa_cons (pe_ix ix_list (pe_lst (pa_cons pe_int (pa_cons pe_int (pa_cons pe_int pa_nil)))) (pv 3) (fun _ _ => rfl)) pa_nil)))))
      (pss_cons (ps_for PassesOwn.never rfl (pi_range1 rfl T.frange (pa_cons (pe_callB (call_min2 rfl) (by rfl) T.fmin bo_min (pa_cons (pe_op op_add (pe_callB call_len_seq (by rfl) T.flen bo_len (pa_cons (pv 0) pa_nil)) pe_int) (pa_cons pe_int pa_nil))) pa_nil)) (pg_name (i := 6) scLaw.nd rfl (Or.inl rfl))
          (pss_cons (ps_set (i := 7) scLaw.nd rfl (Or.inl rfl) (pe_call GB hr3 rfl T.glaw_deed_by kB bB .nil pass0 (pa_cons (pv 0) (pa_cons (pv 6) (pa_cons (pv 1) pa_nil)))))
          (Evl.pss_cut (ps_if (pt_cmpR op_eq (pe_ix ix_tup (pv 7) pe_int (fun _ _ => rfl)) pe_str (nomark _)) (pss_one (ps_asg (pe_ix ix_tup (pv 7) pe_int (fun _ _ => rfl)) (pg_sub (pv 2) (pe_ix ix_tup (pv 7) pe_int (fun _ _ => rfl)) set_list))) pss_nil)
          (pss_one (ps_for PassesOwn.never rfl (pi_range1 rfl T.frange (pa_cons pe_int pa_nil)) (pg_name (i := 3) scLaw.nd rfl (Or.inl rfl))
            (pss_cons (ps_set (i := 8) scLaw.nd rfl (Or.inl rfl) (pe_call GD hr rfl T.glaw_did kD bD .nil pass0 (pa_cons (pe_ix ix_list (pv 5) (pv 3) (fun _ _ => rfl)) (pa_cons (pv 7) pa_nil))))
            (Evl.pss_cut (ps_if (PW.pt (pw_and (pt_cmpR op_in_seq (pe_ix ix_tup (pv 7) pe_int (fun _ _ => rfl)) (pe_tup (pa_cons pe_str (pa_cons pe_str pa_nil))) (by rfl))
                (pw_and1 (pt_not (pt_val (pe_call GO hr1 rfl T.glaw_whole kO bO .nil pass0 (pa_cons (pv 8) (pa_cons (pe_ix ix_list (pv 2) (pe_ix ix_tup (pv 7) pe_int (fun _ _ => rfl)) (fun _ _ => rfl)) pa_nil)))))))) (pss_one (ps_ret pe_bl)) pss_nil)
            (pss_one (ps_if (PW.pt (pw_or (pt_not (pt_val (pe_call GF hr4 rfl T.glaw_first kF bF .nil pass0 (pa_cons (pe_ix ix_list (pv 5) (pv 3) (fun _ _ => rfl)) (pa_cons (pv 7) pa_nil)))))
                (pw_or1 (pt_not (pt_val (pe_call GL hr3 rfl T.glaw_lines_right kL bL .nil pass0 (pa_cons (pe_ix ix_list (pv 5) (pv 3) (fun _ _ => rfl)) (pa_cons (pe_ix ix_list (pv 4) (pv 3) (fun _ _ => rfl)) (pa_cons (pv 2) pa_nil))))))))) (pss_one (ps_ret pe_bl)) pss_nil)))))))))
      (pss_one (ps_ret (pe_callB (cr_all rfl) (by rfl) T.fall bo_all (pa_cons
        (pe_lc (own := [("_law_turn", 3)]) (g := gName 3) (tt := tYes) (te := teEnd K) rfl scLaw.nd (pi_range1 rfl T.frange (pa_cons pe_int pa_nil)) (blkOk_by (N := nLaw) (sc := defScope s_law) (by decide +kernel))
          (fun _ _ _ _ _ => pg_name (i := 3) scLaw.nd rfl (Or.inl rfl)) (fun _ _ _ _ _ => pts_nil)
          (fun _ _ _ _ _ => pe_cmpR op_eq (pe_callB call_len_seq (by rfl) T.flen bo_len (pa_cons (pe_meth0 (pe_ix ix_list (pv 5) (pv 3) (fun _ _ => rfl)) T.cNear T.mNear_held GH hr2 bH .nil pass0) pa_nil))
            (pe_ix ix_list (pe_lst (pa_cons pe_int (pa_cons pe_int (pa_cons pe_int pa_nil)))) (pv 3) (fun _ _ => rfl)) (nomark _))) pa_nil))))))))), ?_⟩
    -- _law_many
    refine ⟨_, rfl, a, ns, 1, rfl, hS, hlen, (by decide), fun z H1 z0 z1 s1 => ?_⟩
    obtain ⟨L, hL⟩ : ∃ L : Nat, (4 : Int) + 4 * (z % 16) = ((4 * L : Nat) : Int) := ⟨(1 + z % 16).toNat, by omega⟩
    have hL1 : 1 ≤ L := by omega
    have hL16 : L ≤ 16 := by omega
    refine ⟨_, _, rfl, rfl, (by show (0 : Int) < 16; decide), _, _, rfl, rfl, .inl ⟨by decide, by decide⟩, _, _, rfl, rfl, ?_⟩
    -- _law_words_here
    refine ⟨_, rfl, _, rfl, a, ns, 200, 4 * L, ?_, s1.seq hS, hlen, (by omega), fun W ws H2 nW lws hW s2 => ?_⟩
    · show [V.ref a, V.int 200, V.int (4 + 4 * (z % 16))] = _
      rw [hL]
      rfl
    have s12 := s1.trans s2
    have scr0 : Scr K H2 (fun _ => none) W a (ns.map V.int) := by
      rcases s1.seq hS with h | h
      · refine .inl ⟨?_, rfl, fun e => ?_⟩
        · rcases h with h | ⟨o, h⟩
          · exact .inl (s2 _ _ h)
          · exact .inr ⟨o, s2 _ _ h⟩
        · rw [← e] at nW
          rcases h with h | ⟨o, h⟩
          · rw [nW] at h
            cases h
          · rw [nW] at h
            cases h
      · exact .inr h
    -- _law_slows
    refine ⟨(3 : Int), rfl, (by decide), (by decide), fun SL nSL => lc_range (lo := 0) (n := 3) (fun i H3 => ∃ (ω : Own) (ss : List Addr), ss.length = i ∧ H3 SL = some (.lst (ss.map V.ref)) ∧ ω SL = none ∧ Wf H3 ω ∧ Same H2 H3 ∧ Quiet H2 H3 (fun _ => none) ω ∧ ∀ (t : Nat) (s : Addr), ss[t]? = some s → SlowNew K H3 ω t s ws) ?_ ?_ ?_⟩
    · exact ⟨fun _ => none, [], rfl, upd_same, rfl, fun _ _ => rfl, same_new _ nSL, Quiet.same (same_new _ nSL), fun t s e => by simp at e⟩
    · rintro i H3 hi ⟨ω, ss, hl, hSL, oSL, wf, sm, qu, al⟩
      refine ⟨rfl, _, rfl, W, _, rfl, .inl (SqL.of (sm _ _ hW)), fun l nl => fun x dx nx nd nxd => ⟨x, l, dx, ws.map V.int, rfl, upd_same, ?_, fun c H4 nc e1 e2 kp => ⟨rfl, ?_⟩⟩⟩
      · rw [upd_ne (ne_of_none upd_same nx), upd_ne (ne_of_none upd_same nd)]
        exact upd_same
      have sl := same_new (.lst (ws.map V.int)) nl
      have s34 : Same H3 H4 := sl.trans (Same.made nx nd kp)
      have ncx : c ≠ x := fun z => by rw [z, upd_same] at nc; cases nc
      have ncd : c ≠ dx := fun z => by rw [z, upd_ne nxd, upd_same] at nc; cases nc
      have nc3 : H3 c = none := by
        rw [upd_ne ncx, upd_ne ncd] at nc
        exact sl.free nc
      have nx3 : H3 x = none := sl.free nx
      have F4 : Frm i H3 H4 ω (ownF (ownF ω x (i, .slow)) c (i, .cells)) := Frm.mark _ (Frm.mark _ (Frm.same s34) nx3 ⟨_, e1⟩) nc3 ⟨_, e2⟩
      have hSL4 := s34 _ _ hSL
      have oSL4 : (ownF (ownF ω x (i, .slow)) c (i, .cells)) SL = none := (F4.own _ _ hSL).trans oSL
      refine ⟨_, hSL4, ?_, _, ss ++ [x], ?_, ?_, oSL4, (F4.wf wf).put _ _, fun b o e => ?_, fun b o e n => ?_, fun t s e => ?_⟩
      · rw [List.length_map, hl]
        exact Nat.lt_of_lt_of_le (show i < 3 by omega) (by decide)
      · rw [List.length_append, hl]
        rfl
      · rw [upd_same, List.map_append]
        rfl
      · rw [upd_ne (ne_of_none e nSL)]
        exact s34 _ _ (sm b o e)
      · obtain ⟨q1, q2⟩ := qu b o e n
        rw [upd_ne (ne_of_none e nSL)]
        exact ⟨s34 _ _ q1, (F4.own _ _ q1).trans q2⟩
      · have k4 : Kp All t H3 (upd H4 SL (.lst (ss.map V.ref ++ [V.ref x]))) ω (ownF (ownF ω x (i, .slow)) c (i, .cells)) := (Frm.kp' F4 s34).trans (Kp.free _ oSL4)
        by_cases ht : t < i
        · rw [List.getElem?_append_left (by omega)] at e
          exact (al t s e).mono k4
        · have hlt := (List.getElem?_eq_some_iff.mp e).1
          rw [List.length_append, hl, List.length_singleton] at hlt
          have eti : t = i := by omega
          subst eti
          rw [List.getElem?_append_right (by omega), hl, Nat.sub_self] at e
          have exs : x = s := by simpa using e
          subst exs
          refine ⟨dx, c, ?_, ?_, ?_, own_same⟩
          · rw [upd_ne (ne_of e1 hSL4 (by intro z; cases z))]
            exact e1
          · rw [own_ne ncx.symm]
            exact own_same
          · rw [upd_ne fun z => by rw [← z, own_same] at oSL4; cases oSL4]
            exact e2
    rintro H3 ⟨ω3, ss, hl3, hSL, oSL, wf3, sm23, qu23, al3⟩
    -- _law_nears
    refine ⟨(3 : Int), rfl, (by decide), (by decide), fun NL nNL => lc_range (lo := 0) (n := 3) (fun i H4 => ∃ (ω : Own) (ps : List Addr), ps.length = i ∧ H4 NL = some (.lst (ps.map V.ref)) ∧ ω NL = none ∧ Wf H4 ω ∧ Same H3 H4 ∧ Quiet H3 H4 ω3 ω ∧
      (∀ (t : Nat) (s : Addr), i ≤ t → ss[t]? = some s → SlowNew K H4 ω t s ws) ∧ ∀ (t : Nat) (p s : Addr), ps[t]? = some p → ss[t]? = some s → NearAt K H4 ω t p s ⟨ws, List.replicate (St t) []⟩) ?_ ?_ ?_⟩
    · have sn := same_new (.lst []) nNL
      exact ⟨ω3, [], rfl, upd_same, wf3 _ nNL, wf3.same sn, sn, Quiet.same sn, fun t s _ e => (al3 t s e).mono (Kp.same sn), fun t p s e => by simp at e⟩
    · rintro i H4 hi ⟨ω, ps, hl, hNL, oNL, wf, sm, qu, al, an⟩
      obtain ⟨s, hs⟩ : ∃ s, ss[i]? = some s := ⟨_, List.getElem?_eq_getElem (by omega)⟩
      refine ⟨rfl, _, rfl, _, rfl, SL, _, _, V.ref s, rfl, rfl, SqL.of (sm _ _ hSL), at_of (j := i) (by omega) (by rw [List.getElem?_map, hs]; rfl), (by show 3 ≤ sizeLine; decide), fun l nl => ⟨_, rfl, l, _, _, V.int (St i), rfl, rfl, SqL.of upd_same, St_at hi,
        fun x dx nx nd nxd => ⟨x, s, dx, St i, rfl, upd_same, St_sets i, fun rl rs H5 nrl lrs ndrs hrs e1 e2 kp => ⟨rfl, ?_⟩⟩⟩⟩
      have sl := same_new (.lst [V.int 1, V.int 2, V.int 4]) nl
      have s45 : Same H4 H5 := sl.trans (Same.made nx nd kp)
      have fr : ∀ b, upd (upd (upd H4 l (.lst [V.int 1, V.int 2, V.int 4])) dx (.own x)) x (.ins (CN K) dx []) b = none → b ≠ x ∧ H4 b = none := fun b e => by
        have h1 : b ≠ x := fun z => by rw [z, upd_same] at e; cases e
        rw [upd_ne h1] at e
        have h2 : b ≠ dx := fun z => by rw [z, upd_same] at e; cases e
        rw [upd_ne h2] at e
        exact ⟨h1, sl.free e⟩
      have nx4 : H4 x = none := sl.free nx
      obtain ⟨nrx, nrl4⟩ := fr rl nrl
      have hrx : ¬ x ∈ rs := fun z => (fr x (hrs x z).1).1 rfl
      have hrr : ¬ rl ∈ rs := fun z => (hrs rl z).2.1 rfl
      have F5 : Frm i H4 H5 ω (markRs (ownF (ownF ω x (i, .near)) rl (i, .rooms)) i rs 0) := Frm.markRs (Frm.mark _ (Frm.mark _ (Frm.same s45) nx4 ⟨_, e2⟩) nrl4 ⟨_, e1⟩) rs 0 fun r hr => ⟨(fr r (hrs r hr).1).2, _, (hrs r hr).2.2⟩
      obtain ⟨dxs, c, c1, c2, c3, c4⟩ := al i s (Nat.le_refl _) hs
      have N5 : NearAt K H5 (markRs (ownF (ownF ω x (i, .near)) rl (i, .rooms)) i rs 0) i x s ⟨ws, List.replicate (St i) []⟩ := by
        refine ⟨⟨dx, rl, dxs, c, 0, 0, rs⟩, e2, ?_, s45 _ _ c1, (F5.own _ _ c1).trans c2, s45 _ _ c3, (F5.own _ _ c3).trans c4, e1, ?_, ?_, fun j r ls h1 h2 => ?_⟩
        · rw [markRs_ne hrx, own_ne nrx.symm, own_same]
        · rw [markRs_ne hrr, own_same]
        · show rs.length = (List.replicate (St i) ([] : List Ln)).length
          rw [List.length_replicate]
          exact lrs
        · have el : ls = [] := by
            have h2' : (List.replicate (St i) ([] : List Ln))[j]? = some ls := h2
            rw [List.getElem?_replicate] at h2'
            split at h2'
            · exact (Option.some.inj h2').symm
            · cases h2'
          subst el
          refine ⟨[], ?_, (hrs r (List.mem_of_getElem? h1)).2.2, .nil⟩
          rw [markRs_at ndrs h1, Nat.zero_add]
      have hNL5 := s45 _ _ hNL
      have oNL5 : (markRs (ownF (ownF ω x (i, .near)) rl (i, .rooms)) i rs 0) NL = none := (F5.own _ _ hNL).trans oNL
      have k5 : ∀ t, Kp All t H4 (upd H5 NL (.lst (ps.map V.ref ++ [V.ref x]))) ω (markRs (ownF (ownF ω x (i, .near)) rl (i, .rooms)) i rs 0) := fun t => (Frm.kp' F5 s45).trans (Kp.free _ oNL5)
      refine ⟨_, hNL5, ?_, _, ps ++ [x], ?_, ?_, oNL5, (F5.wf wf).put _ _, fun b o e => ?_, fun b o e n => ?_, fun t s' ht e => (al t s' (by omega) e).mono (k5 t), fun t p s' ep es => ?_⟩
      · rw [List.length_map, hl]
        exact Nat.lt_of_lt_of_le (show i < 3 by omega) (by decide)
      · rw [List.length_append, hl]
        rfl
      · rw [upd_same, List.map_append]
        rfl
      · rw [upd_ne (ne_of_none e nNL)]
        exact s45 _ _ (sm b o e)
      · obtain ⟨q1, q2⟩ := qu b o e n
        rw [upd_ne (ne_of_none e nNL)]
        exact ⟨s45 _ _ q1, (F5.own _ _ q1).trans q2⟩
      · by_cases ht : t < i
        · rw [List.getElem?_append_left (by omega)] at ep
          exact (an t p s' ep es).mono (k5 t)
        · have hlt := (List.getElem?_eq_some_iff.mp ep).1
          rw [List.length_append, hl, List.length_singleton] at hlt
          have eti : t = i := by omega
          subst eti
          rw [List.getElem?_append_right (by omega), hl, Nat.sub_self] at ep
          have exs : x = p := by simpa using ep
          subst exs
          have ess : s' = s := Option.some.inj (es.symm.trans hs)
          subst ess
          exact N5.mono (Kp.free _ oNL5)
    rintro H4 ⟨ω4, ps, hps, hNL, oNL, wf4, sm34, qu34, _, an⟩
    have hss0 : ss ≠ [] := fun e => by rw [e] at hl3; cases hl3
    have hps0 : ps ≠ [] := fun e => by rw [e] at hps; cases hps
    have quW := qu23 _ _ hW rfl
    have w4 : Wld K a W SL NL ns ss ps L H4 ω4 ws (fun _ => ws) := by
      obtain ⟨x1, x2⟩ := qu34 _ _ quW.1 quW.2
      obtain ⟨x3, x4⟩ := qu34 _ _ hSL oSL
      exact ⟨(scr0.quiet qu23).quiet qu34, x1, x2, x3, x4, hNL, oNL, wf4, fun t p s h1 h2 => ⟨_, an t p s h1 h2, good_new lws⟩⟩
    -- the deeds
    refine ⟨_, rfl, a, _, rfl, .inl w4.scr.seq, _, _, rfl, rfl, _, _, rfl, _, rfl, ?_, ?_, for_range (lo := 0) (n := (if (24 : Int) < ((ns.map V.int).length : Int) + 6 then (24 : Int) else ((ns.map V.int).length : Int) + 6).toNat)
      (fun _ σ H5 => ∃ (ω : Own) (wW : List Int) (v3 v6 v7 v8 : Option V), σ = [some (.ref a), some (.int ((4 * L : Nat) : Int)), some (.ref W), v3, some (.ref SL), some (.ref NL), v6, v7, v8] ∧ Wld K a W SL NL ns ss ps L H5 ω wW (fun _ => wW)) ?_ ?_ ?_⟩
    · rw [List.length_map]
      split <;> omega
    · rw [List.length_map]
      split <;> omega
    · refine ⟨ω4, ws, none, none, none, none, ?_, w4⟩
      show [some (V.ref a), some (V.int (4 + 4 * (z % 16))), some (V.ref W), none, some (V.ref SL), some (V.ref NL), none, none, none] = _
      rw [hL]
    · rintro kk σ H5 hkk ⟨ω5, wW, v3, v6, v7, v8, rfl, w5⟩
      have hk24 : kk < 24 := by
        rw [List.length_map] at hkk
        split at hkk <;> omega
      refine ⟨_, rfl, _, rfl, _, rfl, a, ns, kk, 4 * L, ?_, w5.scr.seq, hlen, (by omega), (by omega), fun tp d adr v H6 n6 htp hadr s6 => ?_⟩
      · show [V.ref a, V.int (0 + (kk : Int)), V.int ((4 * L : Nat) : Int)] = _
        rw [Int.zero_add]
      have otp : ω5 tp = none := w5.wf _ n6
      have w6 := w5.same s6
      have a0 : atI [V.str d.nm, V.int adr, V.int v] 0 = some (V.str d.nm) := at_of (j := 0) rfl rfl
      have a1 : atI [V.str d.nm, V.int adr, V.int v] 1 = some (V.int adr) := at_of (j := 1) rfl rfl
      have a2 : atI [V.str d.nm, V.int adr, V.int v] 2 = some (V.int v) := at_of (j := 2) rfl rfl
      have hwl : wW.length = 4 * L := by
        obtain ⟨p0, hp0⟩ : ∃ p, ps[0]? = some p := ⟨_, List.getElem?_eq_getElem (by omega)⟩
        obtain ⟨s0, hs0⟩ : ∃ s, ss[0]? = some s := ⟨_, List.getElem?_eq_getElem (by omega)⟩
        obtain ⟨m, _, g⟩ := w6.near 0 p0 s0 hp0 hs0
        exact g.wl
      refine ⟨fun σ' H' => σ' = [some (.ref a), some (.int ((4 * L : Nat) : Int)), some (.ref W), v3, some (.ref SL), some (.ref NL), some (.int (0 + (kk : Int))), some (.ref tp), v8] ∧ Wld K a W SL NL ns ss ps L H' ω5 (d.after wW adr v) (fun _ => wW) ∧
        H' tp = some (.tup [.str d.nm, .int adr, .int v]), ?_, ?_⟩
      · refine ⟨_, rfl, tp, _, _, _, rfl, rfl, SqT.of htp, a0, rfl, _, rfl, ?_⟩
        by_cases d2 : d = .put
        · refine iteD (by rw [d2]; rfl) ?_
          refine ⟨_, rfl, tp, _, _, _, rfl, rfl, SqT.of htp, a2, _, rfl, _, rfl, tp, _, _, _, rfl, rfl, SqT.of htp, a1, W, _, _, adr, rfl, rfl, w6.wd, ix_nat (by rw [List.length_map, hwl]; exact hadr), rfl, ?_, ?_⟩
          · have e : ((wW.map V.int).set adr (V.int v)) = (d.after wW adr v).map V.int := by
              rw [d2]
              show _ = (wW.set adr v).map V.int
              rw [List.map_set]
            rw [e]
            exact w6.put hss0 hps0 _
          · rw [upd_ne (ne_of htp w6.wd (by intro q; cases q))]
            exact htp
        · refine iteDF (fun q => d2 ((nm_eq d .put).mp q)) ⟨rfl, ?_, htp⟩
          have e : d.after wW adr v = wW := by
            cases d with
            | put => exact absurd rfl d2
            | _ => rfl
          rw [e]
          exact w6
      rintro σ1 H7 ⟨rfl, w7, htp7⟩
      refine ⟨(3 : Int), rfl, (by decide), (by decide), for_range (lo := 0) (n := 3)
        (fun i σ H8 => ∃ (ω : Own) (v3 v8 : Option V), σ = [some (.ref a), some (.int ((4 * L : Nat) : Int)), some (.ref W), v3, some (.ref SL), some (.ref NL), some (.int (0 + (kk : Int))), some (.ref tp), v8] ∧
          Wld K a W SL NL ns ss ps L H8 ω (d.after wW adr v) (fun t => if t < i then d.after wW adr v else wW) ∧ H8 tp = some (.tup [.str d.nm, .int adr, .int v]) ∧ ω tp = none) ⟨ω5, v3, v8, rfl, w7.words fun t _ => if_neg (Nat.not_lt_zero t), htp7, otp⟩ ?_ ?_⟩
      · rintro i σ H8 hi ⟨ω8, v3, v8, rfl, w8, htp8, otp8⟩
        obtain ⟨p, hp⟩ : ∃ p, ps[i]? = some p := ⟨_, List.getElem?_eq_getElem (by omega)⟩
        obtain ⟨s, hs⟩ : ∃ s, ss[i]? = some s := ⟨_, List.getElem?_eq_getElem (by omega)⟩
        obtain ⟨m, N, g⟩ := w8.near i p s hp hs
        simp only [Nat.lt_irrefl, if_false] at g
        have ap : atI (ps.map V.ref) (0 + (i : Int)) = some (V.ref p) := at_of (j := i) (by omega) (by rw [List.getElem?_map, hp]; rfl)
        have as_ : atI (ss.map V.ref) (0 + (i : Int)) = some (V.ref s) := at_of (j := i) (by omega) (by rw [List.getElem?_map, hs]; rfl)
        refine ⟨_, rfl, _, rfl, NL, _, _, V.ref p, rfl, rfl, SqL.of w8.nl, ap, _, rfl, p, s, tp, m, ω8, i, St i, L, wW, d, adr, v, rfl, N, St_sets i, hL16, g, w8.wf, htp8, hadr, fun x H9 ω9 m9 N9 g9 f9 t9 F9 => ?_⟩
        have w9 := w8.deed F9 hp hs N9 g9
        obtain ⟨htp9, otp9⟩ := F9.quiet _ _ htp8 otp8
        refine ⟨fun σ' H' => σ' = [some (.ref a), some (.int ((4 * L : Nat) : Int)), some (.ref W), some (.int (0 + (i : Int))), some (.ref SL), some (.ref NL), some (.int (0 + (kk : Int))), some (.ref tp), some x] ∧ Same H9 H', ?_, ?_⟩
        · have hin : inV (V.str d.nm) [V.str "get", V.str "look"] = decide (d = .get ∨ d = .look) := by
            cases d <;> decide +kernel
          refine ⟨_, rfl, tp, _, _, _, rfl, rfl, SqT.of htp9, a0, (by show 2 ≤ sizeLine; decide), fun t2 h2 => ⟨t2, _, rfl, .inr (SqT.of upd_same), rfl, rfl, decide (d = .get ∨ d = .look), (by rw [hin]; rfl), ?_⟩⟩
          have st := same_new (.tup [V.str "get", V.str "look"]) h2
          by_cases hd : d = .get ∨ d = .look
          · refine iteD hd ?_
            obtain ⟨u, hu, rfl⟩ := t9 hd
            have e : d.after wW adr v = wW := by
              rcases hd with rfl | rfl <;> rfl
            have hW9 := st _ _ w9.wd
            rw [e] at hW9
            refine ⟨_, rfl, _, rfl, _, rfl, tp, _, _, _, rfl, rfl, SqT.of (st _ _ htp9), a1, W, _, _, V.int u, rfl, rfl, SqL.of hW9, at_of (j := adr) rfl (by rw [List.getElem?_map, hu]; rfl), u, rfl, _, rfl, iteF ⟨rfl, st⟩⟩
          · exact iteDF hd (iteF ⟨rfl, st⟩)
        rintro σ2 H10 ⟨rfl, s10⟩
        have w10 := w9.same s10
        refine ⟨_, rfl, _, rfl, NL, _, _, V.ref p, rfl, rfl, SqL.of w10.nl, ap, _, rfl, p, s, tp, m9, ω9, i, St i, L, d.after wW adr v, d, adr, v, rfl, N9.same s10, St_sets i, hL16, g9, s10 _ _ htp9, hadr, f9, fun H11 s11 => ⟨_, rfl, iteF ?_⟩⟩
        have s911 := s10.trans s11
        have w11 := w9.same s911
        refine ⟨_, rfl, _, rfl, NL, _, _, V.ref p, rfl, rfl, SqL.of w11.nl, ap, _, rfl, _, rfl, SL, _, _, V.ref s, rfl, rfl, SqL.of w11.sl, as_, _, rfl, p, s, W, m9, ω9, i, St i, L, d.after wW adr v, rfl, N9.same s911, St_sets i, hL16, g9, w11.wd, fun H12 s12 => ⟨_, rfl, iteF ?_⟩⟩
        have s912 := s911.trans s12
        refine ⟨ω9, _, _, rfl, (w9.same s912).words fun t _ => ?_, s912 _ _ htp9, otp9⟩
        show (if t < i + 1 then d.after wW adr v else wW) = if t = i then d.after wW adr v else if t < i then d.after wW adr v else wW
        by_cases e1 : t = i
        · rw [if_pos e1, if_pos (by omega)]
        · rw [if_neg e1]
          by_cases e2 : t < i
          · rw [if_pos e2, if_pos (by omega)]
          · rw [if_neg e2, if_neg (by omega)]
      · rintro σ H8 ⟨ω8, v3, v8, rfl, w8, htp8, otp8⟩
        refine ⟨ω8, d.after wW adr v, v3, _, _, v8, rfl, w8.words fun t ht => ?_⟩
        rw [if_pos (by omega)]
    -- the end
    rintro σ H5 ⟨ω5, wW, v3, v6, v7, v8, rfl, w5⟩
    refine ⟨(3 : Int), rfl, (by decide), (by decide), fun D nD => lc_range (lo := 0) (n := 3) (fun i H6 => Same H5 H6 ∧ H6 D = some (.lst ((List.replicate i true).map V.bl))) ?_ ?_ ?_⟩
    · exact ⟨same_new _ nD, upd_same⟩
    · rintro i H6 hi ⟨sm, hd⟩
      obtain ⟨p, hp⟩ : ∃ p, ps[i]? = some p := ⟨_, List.getElem?_eq_getElem (by omega)⟩
      obtain ⟨s, hs⟩ : ∃ s, ss[i]? = some s := ⟨_, List.getElem?_eq_getElem (by omega)⟩
      have w6 := w5.same sm
      obtain ⟨m, N, g⟩ := w6.near i p s hp hs
      obtain ⟨y, Ny⟩ := id N
      refine ⟨rfl, _, rfl, _, rfl, NL, _, _, V.ref p, rfl, rfl, SqL.of w6.nl, at_of (j := i) (by omega) (by rw [List.getElem?_map, hp]; rfl), p, y.dx, _, rfl, Ny.pp, nf_no _ _ (by decide +kernel) (by decide +kernel), p, s, m, ω5, i, St i, L, wW, rfl, N, St_sets i, g, fun h H7 ⟨rs, hh, pr⟩ s7 => ?_⟩
      refine ⟨h, _, rfl, .inr (SqT.of hh), (by show 3 ≤ sizeLine; decide), fun l nl => ?_⟩
      have s8 := same_new (.lst [V.int 1, V.int 2, V.int 4]) nl
      refine ⟨_, rfl, l, _, _, V.int (St i), rfl, rfl, SqL.of upd_same, St_at hi, rfl, _, s8 _ _ (s7 _ _ hd), ?_, fun b o e => ?_, ?_⟩
      · rw [List.length_map, List.length_replicate]
        exact Nat.lt_of_lt_of_le (show i < 3 by omega) (by decide)
      · rw [upd_ne (ne_of_none e nD)]
        exact s8 _ _ (s7 _ _ (sm b o e))
      · have e : decide (V.int ((rs.map V.ref).length : Int) = V.int (St i : Int)) = true := decide_eq_true (by rw [List.length_map, Paired.length pr, g.len])
        rw [upd_same, List.replicate_succ', List.map_append, e]
        rfl
    rintro H6 ⟨sm, hd⟩
    refine ⟨D, List.replicate 3 true, rfl, SqL.of hd, ?_⟩
    exact k _
end
end RM

namespace RM
open PySem PySem.Spec PyProof.Rows L2
abbrev R : PySem.W.OpenRow := PySem.W.OpenLaw.row PySem.Challenge.rw_rowmill_k46_whole_sets_alike
abbrev hk : PySem.W.Hook := He.hookD 5 fas fns
def ob (s : PySem.W.SharedT) : He.AlD := He.obsDG 5 fas fns (HandSHeadRun.getT s)
theorem ob_eq (s : PySem.W.SharedT) : ob s = hk.obs s.abs := He.obsDG_eq (HandSHeadRun.getT_eq s)
def others_ : List PySem.Str := ["_wall", "MillError", "NoLine", "NoSets", "NoPlace", "IN_LINE", "Slow", "ROOM", "NEAR_COST", "COME_COST", "CHANGED_COST", "Line", "Near", "_law_cell", "_law_word", "_law_words", "_law_address", "_law_deed_by", "_law_did", "_law_whole", "_law_rows", "_law_set_right", "_law_lines_right", "_law_first"]
theorem run (w : World) : HandSHeadRun.RunEq R (PySem.W.view R.prog [28]) hk ob 4000 others_ w := by
  intro os
  kernel_rfl
end RM

namespace RM
open PySem PySem.Spec PyProof.Rows L2
/-! ### the end -/
theorem facts {P : Program} {w : World} {K : PySem.W.Frag} {h : Heap} {mg : Str → Option Value} {f : Addr} (X : K.In h) (G : h.Ns mainGlobals mg) (hfa : mg ("law" : Str) = some (.ref f)) (c : He.SaysD fas fns K) :
    ∃ fd : FuncData, (∀ (s : Shared) (v : Value), BindsTo s fd ⟨[v], []⟩ [("_law_script", v)]) ∧ ∀ base : Heap, K.In base → base.Ns mainGlobals mg → FnOk P w K mg base CX0 7 f fd ["_law_script"] (spLaw K) := by
  have T : Tx K mg := ⟨c, h, X, G⟩
  obtain ⟨fd, F⟩ := T.D_law
  have e := hfa.symm.trans T.glaw
  cases e
  have b := FunD.bindsA (ps := ["_law_script"]) F fun _ _ _ _ _ _ us hl => match us, hl with | [_], _ => rfl
  exact ⟨fd, fun s v => b s [v] rfl, fun base _ _ => ok_law T F⟩
end RM
open PySem PySem.W PySem.Calls PyProof.Rows
set_option maxHeartbeats 0 in
theorem PySem.Challenge.cw_rowmill_k46_whole_sets_alike_holds : PySem.Challenge.rw_rowmill_k46_whole_sets_alike.Holds := by
  w_on; o_law
  refine HandSHeadRun.head_any (r := OpenLaw.row PySem.Challenge.rw_rowmill_k46_whole_sets_alike) (q := view (OpenLaw.row PySem.Challenge.rw_rowmill_k46_whole_sets_alike).prog [28]) (H := RM.hk) (ob := RM.ob) (M := 4000) (loose := RM.others_) (d := HandSHeadRun.topDef (OpenLaw.row PySem.Challenge.rw_rowmill_k46_whole_sets_alike).prog 28) (kwd := []) RM.ob_eq
    (by kernel_rfl) (fun s => by kernel_rfl) RM.run (by kernel_rfl) (by kernel_rfl) (by kernel_rfl) (by rfl) (by first | assumption | decide +kernel) (by decide +kernel) ⟨rfl, rfl, rfl, rfl, rfl, by decide +kernel⟩ ?hw ?hc
  case hw => w_witness2
  case hc =>
    refine L2.walk_ofE (l := PySem.Challenge.rw_rowmill_k46_whole_sets_alike) (n := 63) (k := 7) (x := "_law_script") (CX := L2.CX0) rfl (by decide) (by kernel_rfl) ⟨rfl, by decide, by decide⟩ ?F (fun _ _ _ _ z => z)
    intro w mg fa h Y G hmg0
    obtain ⟨K, KX, c⟩ := Y
    have hmg : mg ("law" : PySem.Str) = some (.ref fa) := by
      have e : (HandSHeadRun.topDef (OpenLaw.row PySem.Challenge.rw_rowmill_k46_whole_sets_alike).prog 28).name = ("law" : PySem.Str) := by kernel_rfl
      rw [← e]
      exact hmg0
    obtain ⟨fd, hb, hF⟩ := RM.facts (P := (PySem.Challenge.rw_rowmill_k46_whole_sets_alike).prog) (w := w) KX G hmg c
    exact ⟨K, fd, RM.spLaw K, KX, hb, fun H a ns hl _ hS => ⟨a, ns, rfl, hS, hl, fun _ => rfl⟩, hF⟩
