import PyProof.Rows.All
import Wide.All
import OpenK.AllK
import Wide.FinOn
import PyProof.EqAt
import PyProof.EqKinds
import PyProof.TupleCall
import KE.KExcSuper
import HandS.ForExc
import HandS.ForMost
import HandS.Defaults
import HandS.HeadHook1
import HandS.HeadHook2
import HandS.HeadHook3
import HandS.HeadHook4
import PySem.Challenge.RW_foursfold_k07_whole_hands_and_the_plain
import HandS.TryMany
import PyProof.EnumMake
import KE.GoesMore
import KE.KDictZip
import HandS.Walk
import HandS.Zip0
import HandS.Zip
import KE.KTurns
import PyProof.ReprRoads
import PyProof.ReprLen
import PyProof.CallFns
import HandS.Lambda
import HandS.EndTab
import HandS.HeadWalk
import HandS.Deep
import HandS.EndBits
import HandS.IsInst
import HandS.TupAny
import HandS.Conv
import HandS.Style
import KE.KNestM
import KE.KStateDown
import HandS.Head0
import HandS.Head1
import HandS.Head2
import HandS.HeadEnd
section
-- K7Math
/-! The plain mathematics of the law: piles, the plain way, merges by hand. No program in sight. -/
set_option linter.all false
namespace K7
/-- what two commands merge to -/
abbrev Rw := List (List (Option Int))
def Rw.at (rows : Rw) (a b : Int) : Option Int := ((rows.getD a.toNat []).getD b.toNat none)
def Com (n : Nat) (a : Int) : Prop := 0 ≤ a ∧ a < n
/-- n rows of n ends -/
structure Sq (rows : Rw) (n : Nat) : Prop where
  pos : 1 ≤ n
  most : n ≤ 12
  len : rows.length = n
  row : ∀ r ∈ rows, r.length = n
  ends : ∀ r ∈ rows, ∀ c, some c ∈ r → -1 ≤ c ∧ c < n
theorem Sq.rowAt {rows : Rw} {n : Nat} (s : Sq rows n) {a : Int} (ha : Com n a) : ∃ r, rows[a.toNat]? = some r ∧ r ∈ rows ∧ r.length = n ∧ rows.getD a.toNat [] = r := by
  have h : a.toNat < rows.length := by rw [s.len]; have := ha.1; have := ha.2; omega
  refine ⟨rows[a.toNat], List.getElem?_eq_getElem h, List.getElem_mem h, s.row _ (List.getElem_mem h), ?_⟩
  rw [List.getD_eq_getElem?_getD, List.getElem?_eq_getElem h]; rfl
theorem Sq.endAt {rows : Rw} {n : Nat} (s : Sq rows n) {a b : Int} (ha : Com n a) (hb : Com n b) : ∃ r, rows[a.toNat]? = some r ∧ r[b.toNat]? = some (rows.at a b) := by
  obtain ⟨r, h1, h2, h3, h4⟩ := s.rowAt ha
  have h : b.toNat < r.length := by rw [h3]; have := hb.1; have := hb.2; omega
  refine ⟨r, h1, ?_⟩
  unfold Rw.at
  rw [h4, List.getD_eq_getElem?_getD, List.getElem?_eq_getElem h]; rfl
theorem Sq.val {rows : Rw} {n : Nat} (s : Sq rows n) {a b : Int} (ha : Com n a) (hb : Com n b) {e : Int} (h : rows.at a b = some e) : -1 ≤ e ∧ e < n := by
  obtain ⟨r, h1, h2⟩ := s.endAt ha hb
  rw [h] at h2
  exact s.ends r (List.mem_of_getElem? h1) e (List.mem_of_getElem? h2)
theorem Sq.com {rows : Rw} {n : Nat} (s : Sq rows n) {a b : Int} (ha : Com n a) (hb : Com n b) {e : Int} (h : rows.at a b = some e) (hg : e ≠ -1) : Com n e := by
  have := s.val ha hb h
  exact ⟨by omega, this.2⟩
/-- what three come to by either merge first -/
def endOf (rows : Rw) (x y : Int) : Option Int := if x = -1 then some y else if y = -1 then some x else rows.at x y
def Sound3 (rows : Rw) (a b c : Int) : Prop := ∀ x y, rows.at a b = some x → rows.at b c = some y → (if x = -1 then some c else rows.at x c) = (if y = -1 then some a else rows.at a y)
def Sound (rows : Rw) (n : Nat) : Prop := ∀ a b c, Com n a → Com n b → Com n c → Sound3 rows a b c

/-! ### merges by hand -/
def goL (e : Option Int) : List Int := match e with
  | none => []
  | some e => if e = -1 then [] else [e]
/-- the two neighbours at a place -/
def nb (rows : Rw) (q : List Int) (i : Nat) : Option Int := rows.at (q.getD i 0) (q.getD (i + 1) 0)
def once (rows : Rw) (q : List Int) (i : Nat) : List Int := q.take i ++ (goL (nb rows q i) ++ q.drop (i + 2))
def Can (rows : Rw) (q : List Int) (i : Nat) : Prop := i + 1 < q.length ∧ nb rows q i ≠ none
instance (rows : Rw) (q : List Int) (i : Nat) : Decidable (Can rows q i) := inferInstanceAs (Decidable (_ ∧ _))
def wayEnd (rows : Rw) : List Int → List Nat → List Int
  | q, [] => q
  | q, i :: w => wayEnd rows (once rows q i) w
def WayOk (rows : Rw) : List Int → List Nat → Prop
  | _, [] => True
  | q, i :: w => Can rows q i ∧ WayOk rows (once rows q i) w
theorem wayEnd_snoc (rows : Rw) : ∀ (q : List Int) (w : List Nat) (i : Nat), wayEnd rows q (w ++ [i]) = once rows (wayEnd rows q w) i
  | q, [], i => rfl
  | q, j :: w, i => wayEnd_snoc rows (once rows q j) w i
theorem wayOk_snoc (rows : Rw) : ∀ (q : List Int) (w : List Nat) (i : Nat), WayOk rows q w → Can rows (wayEnd rows q w) i → WayOk rows q (w ++ [i])
  | q, [], i, _, h => ⟨h, trivial⟩
  | q, j :: w, i, h, h2 => ⟨h.1, wayOk_snoc rows (once rows q j) w i h.2 h2⟩
theorem wayEnd_app (rows : Rw) : ∀ (q : List Int) (w v : List Nat), wayEnd rows q (w ++ v) = wayEnd rows (wayEnd rows q w) v
  | q, [], v => rfl
  | q, j :: w, v => wayEnd_app rows (once rows q j) w v
theorem wayOk_app (rows : Rw) : ∀ (q : List Int) (w v : List Nat), WayOk rows q w → WayOk rows (wayEnd rows q w) v → WayOk rows q (w ++ v)
  | q, [], v, _, h => h
  | q, j :: w, v, h, h2 => ⟨h.1, wayOk_app rows (once rows q j) w v h.2 h2⟩
def Que (n : Nat) (q : List Int) : Prop := ∀ c ∈ q, Com n c
theorem Que.get {n : Nat} {q : List Int} (h : Que n q) {i : Nat} {c : Int} (e : q[i]? = some c) : Com n c := h c (List.mem_of_getElem? e)
theorem Que.getD {n : Nat} {q : List Int} (h : Que n q) {i : Nat} (hi : i < q.length) : Com n (q.getD i 0) := by
  rw [List.getD_eq_getElem?_getD, List.getElem?_eq_getElem hi]
  exact h _ (List.getElem_mem hi)
theorem once_que {rows : Rw} {n : Nat} (s : Sq rows n) {q : List Int} (hq : Que n q) {i : Nat} (h : Can rows q i) : Que n (once rows q i) := by
  intro c hc
  unfold once at hc
  rcases List.mem_append.mp hc with hc | hc
  · exact hq c (List.mem_of_mem_take hc)
  rcases List.mem_append.mp hc with hc | hc
  · have h1 := hq.getD (show i < q.length by have := h.1; omega)
    have h2 := hq.getD h.1
    cases e : nb rows q i with
    | none => rw [e] at hc; cases hc
    | some x =>
      rw [e] at hc
      by_cases hx : x = -1
      · rw [show goL (some x) = [] from if_pos hx] at hc
        cases hc
      · rw [show goL (some x) = [x] from if_neg hx] at hc
        rw [List.mem_singleton.mp hc]
        exact s.com h1 h2 e hx
  · exact hq c (List.mem_of_mem_drop hc)
theorem once_len {rows : Rw} {q : List Int} {i : Nat} (h : Can rows q i) : (once rows q i).length + 1 ≤ q.length := by
  unfold once
  rw [List.length_append, List.length_append, List.length_take, List.length_drop]
  have h1 := h.1
  have h2 : (goL (nb rows q i)).length ≤ 1 := by
    unfold goL
    split
    · exact Nat.zero_le _
    · split
      · exact Nat.zero_le _
      · exact Nat.le_refl _
  omega
theorem wayEnd_que {rows : Rw} {n : Nat} (s : Sq rows n) : ∀ {w : List Nat} {q : List Int}, Que n q → WayOk rows q w → Que n (wayEnd rows q w)
  | [], _, hq, _ => hq
  | i :: w, q, hq, h => wayEnd_que (w := w) (q := once rows q i) s (once_que s hq h.1) h.2
theorem wayEnd_len {rows : Rw} : ∀ {w : List Nat} {q : List Int}, WayOk rows q w → (wayEnd rows q w).length + w.length ≤ q.length
  | [], _, _ => Nat.le_refl _
  | i :: w, q, h => by
    have h1 := once_len h.1
    have h2 := wayEnd_len (w := w) h.2
    show (wayEnd rows (once rows q i) w).length + (w.length + 1) ≤ q.length
    omega

/-! ### piles, the top first -/
def Fo (rows : Rw) : List Int → Prop
  | [] => True
  | [_] => True
  | b :: a :: r => rows.at a b = none ∧ Fo rows (a :: r)
theorem Fo.tail {rows : Rw} {a : Int} {r : List Int} (h : Fo rows (a :: r)) : Fo rows r := by
  cases r with
  | nil => trivial
  | cons b r => exact h.2
/-- a command (or what is gone) merged with the top, as long as they do: the pile, what is in the hand, how many merges -/
def press (rows : Rw) : List Int → Int → List Int × Int × Nat
  | [], h => ([], h, 0)
  | t :: p, h => if h = -1 then (t :: p, h, 0) else match rows.at t h with
    | none => (t :: p, h, 0)
    | some e => ((press rows p e).1, (press rows p e).2.1, (press rows p e).2.2 + 1)
def lay (x : List Int × Int × Nat) : List Int := if x.2.1 = -1 then x.1 else x.2.1 :: x.1
def put (rows : Rw) (p : List Int) (c : Int) : List Int := lay (press rows p c)
def many (rows : Rw) (p : List Int) (c : Int) : Nat := (press rows p c).2.2
theorem press_gone (rows : Rw) (p : List Int) : press rows p (-1) = (p, -1, 0) := by
  cases p with
  | nil => rfl
  | cons t p => exact if_pos rfl
theorem press_none {rows : Rw} {t h : Int} {p : List Int} (e : rows.at t h = none) : press rows (t :: p) h = (t :: p, h, 0) := by
  unfold press
  split
  · rfl
  · rw [e]
theorem press_some {rows : Rw} {t h e : Int} {p : List Int} (hh : h ≠ -1) (e1 : rows.at t h = some e) : press rows (t :: p) h = ((press rows p e).1, (press rows p e).2.1, (press rows p e).2.2 + 1) := by
  conv => lhs; unfold press
  rw [if_neg hh, e1]
theorem press_fo {rows : Rw} : ∀ {p : List Int} {h : Int}, Fo rows p → Fo rows (press rows p h).1 ∧ ((press rows p h).2.1 = -1 ∨ ∀ t r, (press rows p h).1 = t :: r → rows.at t (press rows p h).2.1 = none)
  | [], h, _ => ⟨trivial, .inr fun t r e => by cases e⟩
  | t :: p, h, f => by
    by_cases hh : h = -1
    · subst hh
      rw [press_gone]
      exact ⟨f, .inl rfl⟩
    · cases e : rows.at t h with
      | none =>
        rw [press_none e]
        refine ⟨f, .inr fun t' r e' => ?_⟩
        cases e'
        exact e
      | some x =>
        rw [press_some hh e]
        exact press_fo (p := p) (h := x) f.tail
theorem put_fo {rows : Rw} {p : List Int} {c : Int} (f : Fo rows p) : Fo rows (put rows p c) := by
  obtain ⟨h1, h2⟩ := press_fo (h := c) f
  unfold put lay
  split
  · exact h1
  · rename_i hg
    rcases h2 with h2 | h2
    · exact absurd h2 hg
    · cases e : (press rows p c).1 with
      | nil => trivial
      | cons t r =>
        rw [e] at h1
        exact ⟨h2 t r e, h1⟩
theorem press_que {rows : Rw} {n : Nat} (s : Sq rows n) : ∀ {p : List Int} {h : Int}, Que n p → (h = -1 ∨ Com n h) → Que n (press rows p h).1 ∧ ((press rows p h).2.1 = -1 ∨ Com n (press rows p h).2.1)
  | [], h, _, hh => ⟨fun _ z => (by cases z), hh⟩
  | t :: p, h, hp, hh => by
    by_cases hg : h = -1
    · subst hg
      rw [press_gone]
      exact ⟨hp, .inl rfl⟩
    · have hc : Com n h := hh.resolve_left hg
      have ht : Com n t := hp t (List.mem_cons_self ..)
      cases e : rows.at t h with
      | none =>
        rw [press_none e]
        exact ⟨hp, .inr hc⟩
      | some x =>
        rw [press_some hg e]
        refine press_que s (p := p) (h := x) (fun c hc => hp c (List.mem_cons_of_mem _ hc)) ?_
        by_cases hx : x = -1
        · exact .inl hx
        · exact .inr (s.com ht hc e hx)
theorem put_que {rows : Rw} {n : Nat} (s : Sq rows n) {p : List Int} {c : Int} (hp : Que n p) (hc : Com n c) : Que n (put rows p c) := by
  obtain ⟨h1, h2⟩ := press_que s hp (.inr hc)
  unfold put lay
  split
  · exact h1
  · rename_i hg
    intro d hd
    rcases List.mem_cons.mp hd with rfl | hd
    · exact h2.resolve_left hg
    · exact h1 d hd
theorem press_len {rows : Rw} : ∀ {p : List Int} {h : Int}, (press rows p h).1.length + (press rows p h).2.2 = p.length
  | [], h => rfl
  | t :: p, h => by
    by_cases hg : h = -1
    · subst hg; rw [press_gone]; rfl
    · cases e : rows.at t h with
      | none => rw [press_none e]; rfl
      | some x =>
        rw [press_some hg e]
        have := press_len (rows := rows) (p := p) (h := x)
        show (press rows p x).1.length + ((press rows p x).2.2 + 1) = p.length + 1
        omega
theorem put_len {rows : Rw} {p : List Int} {c : Int} : (put rows p c).length ≤ p.length + 1 := by
  have := press_len (rows := rows) (p := p) (h := c)
  unfold put lay
  split
  · omega
  · rw [List.length_cons]; omega
theorem put_keep {rows : Rw} {p : List Int} {c : Int} (hc : c ≠ -1) (h : ∀ t r, p = t :: r → rows.at t c = none) : put rows p c = c :: p ∧ many rows p c = 0 := by
  cases p with
  | nil =>
    unfold put many lay press
    exact ⟨if_neg hc, rfl⟩
  | cons t r =>
    unfold put many
    rw [press_none (h t r rfl)]
    exact ⟨if_neg hc, rfl⟩
/-- the places of k merges from a pile of l: l - 1, l - 2, .. -/
def downs (l : Nat) : Nat → List Nat
  | 0 => []
  | k + 1 => (l - 1) :: downs (l - 1) k
theorem downs_len (k : Nat) : ∀ l, (downs l k).length = k := by
  induction k with
  | zero => exact fun _ => rfl
  | succ k ih => exact fun l => congrArg Nat.succ (ih (l - 1))
theorem downs_get : ∀ (k l i : Nat), i < k → (downs l k)[i]? = some (l - 1 - i)
  | 0, _, _, h => by omega
  | k + 1, l, 0, _ => rfl
  | k + 1, l, i + 1, h => by
    have := downs_get k (l - 1) i (by omega)
    show (downs (l - 1) k)[i]? = _
    rw [this]
    congr 1
    omega
/-- the merges of one command put, as a way of the whole queue -/
theorem press_way {rows : Rw} : ∀ {p : List Int} {h : Int} (rest : List Int), h ≠ -1 →
    WayOk rows (p.reverse ++ h :: rest) (downs p.length (press rows p h).2.2) ∧ wayEnd rows (p.reverse ++ h :: rest) (downs p.length (press rows p h).2.2) = (lay (press rows p h)).reverse ++ rest
  | [], h, rest, hh => by
    refine ⟨trivial, ?_⟩
    show h :: rest = _
    unfold lay press
    rw [if_neg hh]; rfl
  | t :: p, h, rest, hh => by
    cases e : rows.at t h with
    | none =>
      rw [press_none e]
      refine ⟨trivial, ?_⟩
      show (t :: p).reverse ++ h :: rest = _
      unfold lay
      rw [if_neg hh]
      simp
    | some x =>
      rw [press_some hh e]
      have eq : (t :: p).reverse ++ h :: rest = p.reverse ++ t :: h :: rest := by simp
      have lenr : p.reverse.length = p.length := List.length_reverse
      have g0 : (p.reverse ++ t :: h :: rest).getD p.length 0 = t := by
        rw [List.getD_eq_getElem?_getD, List.getElem?_append_right (by omega), lenr, Nat.sub_self]; rfl
      have g1 : (p.reverse ++ t :: h :: rest).getD (p.length + 1) 0 = h := by
        rw [List.getD_eq_getElem?_getD, List.getElem?_append_right (by omega), lenr, Nat.add_sub_cancel_left]; rfl
      have en : nb rows (p.reverse ++ t :: h :: rest) p.length = some x := by
        unfold nb
        rw [g0, g1, e]
      have can : Can rows (p.reverse ++ t :: h :: rest) p.length := by
        refine ⟨?_, by rw [en]; exact fun z => by cases z⟩
        rw [List.length_append, lenr]
        simp only [List.length_cons]
        omega
      have on : once rows (p.reverse ++ t :: h :: rest) p.length = p.reverse ++ (goL (some x) ++ rest) := by
        unfold once
        rw [en, List.take_append, lenr, Nat.sub_self, List.drop_append, lenr]
        rw [List.take_of_length_le (by omega), List.drop_of_length_le (by omega)]
        have e2 : p.length + 2 - p.length = 2 := by omega
        rw [e2]
        simp
      show WayOk rows ((t :: p).reverse ++ h :: rest) ((p.length + 1 - 1) :: downs (p.length + 1 - 1) (press rows p x).2.2) ∧ wayEnd rows ((t :: p).reverse ++ h :: rest) ((p.length + 1 - 1) :: downs (p.length + 1 - 1) (press rows p x).2.2) = _
      rw [Nat.add_sub_cancel, eq]
      show (Can rows _ _ ∧ WayOk rows (once rows _ _) _) ∧ wayEnd rows (once rows _ _) _ = _
      rw [on]
      by_cases hx : x = -1
      · subst hx
        rw [press_gone]
        refine ⟨⟨can, trivial⟩, ?_⟩
        show p.reverse ++ ([] ++ rest) = (lay (p, -1, 0 + 1)).reverse ++ rest
        rfl
      · have gx : goL (some x) = [x] := if_neg hx
        rw [gx]
        obtain ⟨i1, i2⟩ := press_way (p := p) (h := x) rest hx
        exact ⟨⟨can, i1⟩, i2⟩
/-! ### the plain way -/
/-- the pile (top first) and the places behind some commands -/
def steps (rows : Rw) : List Int → List Int × List Nat → List Int × List Nat
  | [], s => s
  | c :: q, s => steps rows q (put rows s.1 c, s.2 ++ downs s.1.length (many rows s.1 c))
def plain (rows : Rw) (q : List Int) : List Int := (steps rows q ([], [])).1.reverse
def places (rows : Rw) (q : List Int) : List Nat := (steps rows q ([], [])).2
theorem steps_app (rows : Rw) : ∀ (q r : List Int) (s : List Int × List Nat), steps rows (q ++ r) s = steps rows r (steps rows q s)
  | [], _, _ => rfl
  | _ :: q, r, _ => steps_app rows q r _
theorem steps_fo {rows : Rw} : ∀ {q : List Int} {s : List Int × List Nat}, Fo rows s.1 → Fo rows (steps rows q s).1
  | [], _, h => h
  | c :: q, s, h => steps_fo (q := q) (s := (put rows s.1 c, s.2 ++ downs s.1.length (many rows s.1 c))) (put_fo h)
theorem steps_que {rows : Rw} {n : Nat} (sq : Sq rows n) : ∀ {q : List Int} {s : List Int × List Nat}, Que n q → Que n s.1 → Que n (steps rows q s).1
  | [], _, _, h => h
  | c :: q, s, hq, h => steps_que sq (q := q) (s := (put rows s.1 c, s.2 ++ downs s.1.length (many rows s.1 c))) (fun d hd => hq d (List.mem_cons_of_mem _ hd)) (put_que sq h (hq c (List.mem_cons_self ..)))
theorem steps_len {rows : Rw} : ∀ {q : List Int} {s : List Int × List Nat}, (steps rows q s).1.length ≤ s.1.length + q.length
  | [], _ => Nat.le_refl _
  | c :: q, s => by
    have h1 := steps_len (rows := rows) (q := q) (s := (put rows s.1 c, s.2 ++ downs s.1.length (many rows s.1 c)))
    have h2 := put_len (rows := rows) (p := s.1) (c := c)
    show (steps rows q (put rows s.1 c, _)).1.length ≤ s.1.length + (q.length + 1)
    have h3 : (put rows s.1 c, s.2 ++ downs s.1.length (many rows s.1 c)).1.length = (put rows s.1 c).length := rfl
    omega
/-- merges so far and what is left: together at most what was put -/
theorem put_many {rows : Rw} {p : List Int} {c : Int} : (put rows p c).length + many rows p c ≤ p.length + 1 := by
  have := press_len (rows := rows) (p := p) (h := c)
  unfold put lay many
  split
  · omega
  · rw [List.length_cons]; omega
theorem steps_many {rows : Rw} : ∀ {q : List Int} {s : List Int × List Nat}, (steps rows q s).1.length + (steps rows q s).2.length ≤ s.1.length + s.2.length + q.length
  | [], _ => Nat.le_refl _
  | c :: q, s => by
    have h1 := steps_many (rows := rows) (q := q) (s := (put rows s.1 c, s.2 ++ downs s.1.length (many rows s.1 c)))
    have h2 := put_many (rows := rows) (p := s.1) (c := c)
    have h3 : (put rows s.1 c, s.2 ++ downs s.1.length (many rows s.1 c)).1.length = (put rows s.1 c).length := rfl
    have h4 : (put rows s.1 c, s.2 ++ downs s.1.length (many rows s.1 c)).2.length = s.2.length + many rows s.1 c := by
      rw [show (put rows s.1 c, s.2 ++ downs s.1.length (many rows s.1 c)).2 = s.2 ++ downs s.1.length (many rows s.1 c) from rfl, List.length_append, downs_len]
    show (steps rows q (put rows s.1 c, _)).1.length + (steps rows q (put rows s.1 c, _)).2.length ≤ s.1.length + s.2.length + (q.length + 1)
    omega
theorem plain_len {rows : Rw} {q : List Int} : (plain rows q).length ≤ q.length := by
  have := steps_len (rows := rows) (q := q) (s := ([], []))
  unfold plain
  rw [List.length_reverse]
  simpa using this
theorem places_len {rows : Rw} {q : List Int} : (places rows q).length ≤ q.length := by
  have := steps_many (rows := rows) (q := q) (s := ([], []))
  have e : (([] : List Int), ([] : List Nat)).1.length = 0 := rfl
  have e2 : (([] : List Int), ([] : List Nat)).2.length = 0 := rfl
  unfold places
  omega
theorem plain_que {rows : Rw} {n : Nat} (sq : Sq rows n) {q : List Int} (hq : Que n q) : Que n (plain rows q) := fun c hc =>
  steps_que (s := ([], [])) sq hq (fun d (hd : d ∈ ([] : List Int)) => by cases hd) c (List.mem_reverse.mp hc)
/-- the plain way's places lead to the plain fold -/
theorem steps_way {rows : Rw} {n : Nat} (sq : Sq rows n) {all : List Int} : ∀ {q : List Int} {s : List Int × List Nat}, Que n q → Que n s.1 → WayOk rows all s.2 → wayEnd rows all s.2 = s.1.reverse ++ q →
    WayOk rows all (steps rows q s).2 ∧ wayEnd rows all (steps rows q s).2 = (steps rows q s).1.reverse
  | [], s, _, _, h1, h2 => ⟨h1, by rw [List.append_nil] at h2; exact h2⟩
  | c :: q, s, hq, hs, h1, h2 => by
    have hc := hq c (List.mem_cons_self ..)
    obtain ⟨p1, p2⟩ := press_way (rows := rows) (p := s.1) (h := c) q (by have := hc.1; omega)
    refine steps_way sq (q := q) (s := (put rows s.1 c, s.2 ++ downs s.1.length (many rows s.1 c))) (fun d hd => hq d (List.mem_cons_of_mem _ hd)) (put_que sq hs hc) ?_ ?_
    · exact wayOk_app rows _ _ _ h1 (by rw [h2]; exact p1)
    · show wayEnd rows all (s.2 ++ downs s.1.length (many rows s.1 c)) = _
      rw [wayEnd_app, h2]
      exact p2
theorem plain_way {rows : Rw} {n : Nat} (sq : Sq rows n) {q : List Int} (hq : Que n q) : WayOk rows q (places rows q) ∧ wayEnd rows q (places rows q) = plain rows q :=
  steps_way sq (all := q) (q := q) (s := ([], [])) hq (fun d hd => by cases hd) trivial rfl
/-- a folded queue is its own plain fold -/
theorem steps_keep {rows : Rw} : ∀ {q p : List Int} {w : List Nat}, (∀ c ∈ q, c ≠ -1) → Fo rows (q.reverse ++ p) → steps rows q (p, w) = (q.reverse ++ p, w)
  | [], p, w, _, _ => rfl
  | c :: q, p, w, hc, h => by
    have e : (c :: q).reverse ++ p = q.reverse ++ (c :: p) := by simp
    rw [e] at h ⊢
    have hf : Fo rows (c :: p) := by
      have key : ∀ (l : List Int), Fo rows (l ++ (c :: p)) → Fo rows (c :: p) := by
        intro l
        induction l with
        | nil => exact fun z => z
        | cons a l ih => exact fun z => ih (Fo.tail z)
      exact key _ h
    obtain ⟨h1, h2⟩ := put_keep (rows := rows) (p := p) (c := c) (hc c (List.mem_cons_self ..)) (fun t r e => by subst e; exact hf.1)
    show steps rows q (put rows p c, w ++ downs p.length (many rows p c)) = _
    rw [h1, h2]
    show steps rows q (c :: p, w ++ []) = _
    rw [List.append_nil]
    exact steps_keep (fun d hd => hc d (List.mem_cons_of_mem _ hd)) h
theorem steps_pile {rows : Rw} : ∀ {q p : List Int} {w w' : List Nat}, (steps rows q (p, w)).1 = (steps rows q (p, w')).1
  | [], _, _, _ => rfl
  | c :: q, p, w, w' => steps_pile (q := q) (p := put rows p c) (w := w ++ downs p.length (many rows p c)) (w' := w' ++ downs p.length (many rows p c))
/-- a beginning folded ahead changes nothing -/
theorem plain_head {rows : Rw} {n : Nat} (sq : Sq rows n) {q : List Int} (hq : Que n q) (k : Nat) : plain rows (plain rows (q.take k) ++ q.drop k) = plain rows q := by
  have hf : Fo rows (steps rows (q.take k) ([], [])).1 := steps_fo trivial
  have hc := plain_que sq (q := q.take k) (fun c h => hq c (List.mem_of_mem_take h))
  have e1 : steps rows (plain rows (q.take k)) ([], []) = ((steps rows (q.take k) ([], [])).1, []) := by
    have := steps_keep (rows := rows) (q := plain rows (q.take k)) (p := []) (w := []) (fun c h => by have := (hc c h).1; omega) (by unfold plain; rw [List.reverse_reverse, List.append_nil]; exact hf)
    rw [this]
    unfold plain
    rw [List.reverse_reverse, List.append_nil]
  show (steps rows _ _).1.reverse = (steps rows q _).1.reverse
  rw [steps_app, e1]
  conv => rhs; rw [← List.take_append_drop k q, steps_app]
  exact congrArg List.reverse steps_pile
/-- folded, by places -/
theorem fo_at {rows : Rw} : ∀ {p : List Int} {i : Nat} {a b : Int}, Fo rows p → p[i]? = some b → p[i + 1]? = some a → rows.at a b = none
  | [], _, _, _, _, h, _ => by cases h
  | [_], 0, _, _, _, _, h => by cases h
  | [_], _ + 1, _, _, _, h, _ => by cases h
  | x :: y :: r, 0, a, b, f, h1, h2 => by
    have e1 : x = b := Option.some.inj h1
    have e2 : y = a := Option.some.inj h2
    rw [← e1, ← e2]
    exact f.1
  | x :: y :: r, i + 1, a, b, f, h1, h2 => fo_at (p := y :: r) (i := i) f.2 h1 h2
theorem plain_folded {rows : Rw} {q : List Int} {i : Nat} {a b : Int} (h1 : (plain rows q)[i]? = some a) (h2 : (plain rows q)[i + 1]? = some b) : rows.at a b = none := by
  have hf : Fo rows (steps rows q ([], [])).1 := steps_fo trivial
  have hl : i + 1 < (plain rows q).length := by
    rcases Nat.lt_or_ge (i + 1) (plain rows q).length with h | h
    · exact h
    · rw [List.getElem?_eq_none h] at h2; cases h2
  have e : (steps rows q ([], [])).1 = (plain rows q).reverse := by unfold plain; rw [List.reverse_reverse]
  rw [e] at hf
  refine fo_at (i := (plain rows q).length - 1 - (i + 1)) hf ?_ ?_
  · rw [List.getElem?_reverse (by omega)]
    rw [show (plain rows q).length - 1 - ((plain rows q).length - 1 - (i + 1)) = i + 1 by omega]
    exact h2
  · rw [List.getElem?_reverse (by omega)]
    rw [show (plain rows q).length - 1 - ((plain rows q).length - 1 - (i + 1) + 1) = i by omega]
    exact h1
end K7
end

section
-- K7Exc
set_option Elab.async false
set_option linter.all false
set_option maxRecDepth 100000
set_option maxHeartbeats 4000000
/-! An own error over FoldError(ValueError) whose __init__ says super().__init__(text); self.at = at. Turned from skel/42's block. -/
namespace PySem
namespace K7X
open PySem.W PySem.Calls PyProof.Rows PySem.HandSPX
/-! ### the text of __init__ -/
def iA (p1 p2 : Pos) : Arguments := { posonlyargs := [], args := [{ arg := "self", annotation := none, pos := p1 }, { arg := "at", annotation := none, pos := p2 }], vararg := none, kwonlyargs := [], kw_defaults := [], kwarg := none, defaults := [] }
def iB (msg : Str) (p0 p1 p2 p3 p4 p5 q1 q2 q3 q4 : Pos) : List Stmt :=
  [.Expr (.Call (.Attribute (.Call (.Name "super" p0) [] [] p1) "__init__" p2) [.Constant (.str msg) 0 p3] [] p4) p5, .Assign [.Attribute (.Name "self" q1) "at" q2] (.Name "at" q3) q4]
def iS : Scope := { kind := .function, names := [(PySem.Str.ofString "self", .local), (PySem.Str.ofString "at", .local), (PySem.Str.ofString "__class__", .free), (PySem.Str.ofString "super", .globalImplicit)], isGenerator := false, isCoroutine := false, more := [] }
/-- what the written part says of such a class, named cn, at C, and of its __init__, at fI -/
structure ErrTxt (prog : Program) (K : Frag) (mg : Str → Option Value) (cn : Str) (C fI : Addr) : Prop where
  gC : mg cn = some (.ref C)
  cls : ∃ nm q N bs bm sn sub ab col dd k0 k1 k2 k3 k5, K.lookup C = some (excClassObj nm q C N bs bm true sn sub ab col dd k0 k1 k2 k3 k5 "ValueError.__new__") ∧ refsVE bm = true
  sa : findIn K (.ref C) "__setattr__" = some (some (.builtin "object.__setattr__"))
  ga : findIn K (.ref C) "__getattribute__" = some (some (.builtin "BaseException.__getattribute__"))
  gg : findIn K (.ref C) "__getattr__" = some none
  noN : findIn K (.ref C) "at" = some none
  iC : findIn K (.ref C) "__init__" = some (some (.ref fI))
  tC : typeIn K (.ref fI) = some (.type "function")
  kC : keepIn K (.ref C) = true
  exC : subIn K (.ref C) (.type "BaseException") = some true
  veC : subIn K (.ref C) (.type "ValueError") = some true
  tyC : typeIn K (.ref C) = some (.type "type")
  hdC : hasDictIn K C = true
  sup : ks_superIn K C C "__init__" = some (some (.builtin "ValueError.__init__"))
  me : mroIn K C (.ref C) = some true
  opq : nsIn K cStatics "thirdparty.any" = some none
  nos : mg "super" = none
  fn : ∃ (oc : Value) (od : Option Addr) (doc pm : Value) (an : Option Addr) (cda : Addr) (ct : Value) (osl : Array (Option Value)) (cc : Addr) (msg : Str) (p1 p2 q0 q1 q2 q3 q4 q5 r1 r2 r3 r4 : Pos),
    K.lookup fI = some ⟨oc, od, .func (ksFn "__init__" (cn ++ ".__init__") (iA p1 p2) (iB msg q0 q1 q2 q3 q4 q5 r1 r2 r3 r4) iS .none .none doc pm an (.ref cda) ct cc), osl⟩ ∧ codeIn K (.ref cda) (cn ++ ".__init__") = true ∧
    (∃ pl : Env → Sem Bool, ∀ env : Env, eval (.Call (.Attribute (.Call (.Name "super" q0) [] [] q1) "__init__" q2) [.Constant (.str msg) 0 q3] [] q4) env = (do
      let ov ← attributeBase (.Call (.Name "super" q0) [] [] q1) "__init__" env (eval (.Call (.Name "super" q0) [] [] q1) env)
      standAt q2.atName
      let (f, first) ← holding [ov] (getMethod ov "__init__" (pl env))
      callWith q4 f first (backTo q4 (starEach [.Constant (.str msg) 0 q3] env)) [])) ∧
    (∃ (ccl : Value) (cdd : Option Addr) (vs : Array Value) (ccs : Array (Option Value)) (file : Str) (tf : Tok), K.lookup cda = some ⟨ccl, cdd, .fields vs, ccs⟩ ∧ vs[2]? = some (.str file tf) ∧ ((prog.main.file : Str) == file) = true) ∧
    ∃ (cl : Value) (cld : Option Addr) (csl : Array (Option Value)), K.lookup cc = some ⟨cl, cld, .cell (some (.ref C)), csl⟩
  htop : (prog.main.scope.names.lookup ("super" : Str)).isSome = false
/-- what __init__ leaves of a fresh exception at x -/
structure InitEnd (h h' : Heap) (x C dx t1 : Addr) (v : Value) : Prop where
  keep : ∀ b o, b ≠ x → h.get? b = some o → h'.get? b = some o
  obj : h'.get? x = some { cls := .ref C, dict := some dx, data := .fields #[.ref t1, .none, .none, .none, .bool false, .none] }
  dbig : h.objs.size ≤ dx
  dne : dx ≠ x
  ns : h'.Ns1 dx (fun y => if y = "at" then some v else none)
/-- a made error -/
structure Made (h h' : Heap) (e C d : Addr) (v : Value) : Prop where
  keep : ∀ b o, h.get? b = some o → h'.get? b = some o
  new : h.objs.size ≤ e
  obj : ∃ oe vs, h'.get? e = some oe ∧ oe.cls = .ref C ∧ oe.dict = some d ∧ oe.data = .fields vs ∧ vs[1]? = some .none
  dbig : h.objs.size ≤ d
  dne : d ≠ e
  ns : h'.Ns1 d (fun y => if y = "at" then some v else none)
section
variable {prog : Program} {w : World} {A : Around} {E : Value → Shared → Prop} {R : Result → Shared → Prop} {s : Shared} {K : Frag} {mg mb : Str → Option Value} {C fI : Addr} {cn : Str}
/-- the bound __init__ of ValueError, called -/
theorem ve_call {h : Heap} {g : Array GenState} {d : Drawn} {t : Nat} {os : OsState} {u x t0 : Addr} {rest : List Value} {Q : Value → Shared → Prop} {nm q : Str} {N : Addr} {bs bm : List Value} {hdct : Bool} {sn : List Str} {sub : List Value} {ab : Bool} {col : Option Bool} {dd : Option Addr} {k0 k1 k2 k3 k5 : Option Value}
    (hC : h.get? C = some (excClassObj nm q C N bs bm hdct sn sub ab col dd k0 k1 k2 k3 k5 "ValueError.__new__")) (hx : h.get? x = some (excO C t0)) (hu : h.get? u = some (kxs_mw "ValueError.__init__" x)) (hz : rest.length ≤ sizeLine)
    (hq : ∀ h' t1, (∀ b o, b ≠ x → h.get? b = some o → h'.get? b = some o) → h'.get? x = some (excO C t1) → Q .none ⟨h', g, d, t, os⟩) :
    wpAny (model prog w) A (call (.ref u) rest) Q E ⟨h, g, d, t, os⟩ := by
  refine wpAny_call (codeAny_of_tree ?_)
  show wpAny _ A.in1 (callAny (.ref u) ⟨rest, []⟩) _ _ _
  simp only [callAny]
  refine wpAny_bind (wpAny_load hu ?_)
  simp only [kxs_mw, show (Value.type "method-wrapper" == Value.type "method" || Value.type "method-wrapper" == Value.type "builtin_function_or_method" || Value.type "method-wrapper" == Value.type "method-wrapper") = true by decide, if_true]
  refine KFB.if_so (by decide) ?_
  refine wpAny_bind (check_bound_init F.excBase_ValueError.toExcCallFacts hC hx rfl ?_)
  refine wpAny_bind (wpAny_pure (wpAny_pure ?_))
  refine ⟨plainId_quiet F.excBase_ValueError.init.plain _, codeAny_builtin F.excBase_ValueError.initEntry ?_⟩
  exact exc_init_tree (cls := .ref C) (t0 := t0) (dv := none) (c2 := .none) (c3 := .none) (b4 := .bool false) hx hz fun h' k e' _ => hq h' _ k e'
theorem one_size (v : Value) : [v].length ≤ sizeLine := by
  rw [sizeLine_eq]
  exact (by decide : 1 ≤ 16777216)
theorem err_init (T : ErrTxt prog K mg cn C fI) {x t0 : Addr} {v : Value} (X : K.In s.heap) (hlim : s.heap.NoLimit) (G : s.heap.Ns mainGlobals mg) (B : s.heap.Ns builtinsNs mb) (hb : mb "super" = some (.type "super"))
    (hx : s.heap.get? x = some (excO C t0)) (hnx : K.lookup x = none) (hroom : A.depth < recursionLimit)
    (hq : ∀ h' tk dx t1, InitEnd s.heap h' x C dx t1 v → R (.ok (.ret .none)) { s with heap := h', toks := tk }) :
    codeAny (model prog w) A (.call (.ref fI) ⟨[.ref x, v], []⟩) R s := by
  obtain ⟨oc, od, doc, pm, an, cda, ct, osl, cc, msg, p1, p2, q0, q1, q2, q3, q4, q5, r1, r2, r3, r4, ho, hcd, ⟨pl, hev⟩, ⟨ccl, cdd, vs, ccs, file, tf, hcda, hvs, hfile⟩, ⟨cl, cld, csl, hcc⟩⟩ := T.fn
  obtain ⟨nm, q, N, bs, bm, sn, sub, ab, col, dd, k0, k1, k2, k3, k5, hC, hbm⟩ := T.cls
  have hcl : clsIn K C = some { name := nm, bases := bs, mro := .ref C :: bm, ns := N, qualname := q, hasDict := true, slotNames := sn, subclasses := sub, abstract := ab, collection := col, hasDel := false } := by unfold clsIn; rw [hC] <;> rfl
  have hxC : x ≠ C := fun z => by rw [z, hC] at hnx; cases hnx
  refine ks_codeAny_call_defAt (binds := [("self", .ref x), ("at", v)]) hroom (X _ _ ho) rfl hlim (codeRec_of X hcd) rfl (BindsTo.of_eq (by first | rfl | with_unfolding_all rfl)) (show ∀ x ∈ iS.names, x.2 ≠ .cell by decide) (fun y hy => ?_) (fun h₁ hn k => ?_)
  · rcases List.mem_cons.mp hy with e | hy
    · rw [e] <;> rfl
    · rw [List.mem_singleton.mp hy] <;> rfl
  obtain ⟨hp, g, dr, tk, os⟩ := s
  have X₁ : K.In h₁ := X.keeps k
  have hx₁ := k _ _ hx
  have z1 : hp.objs.size < h₁.objs.size := hn.lt
  have hxL : hp.objs.size ≠ x := Nat.ne_of_gt (Heap.lt_size hx)
  show wpAt _ _ (.func (iB msg q0 q1 q2 q3 q4 q5 r1 r2 r3 r4) (ksEnv (cn ++ ".__init__") iS hp.objs.size fI (.ref cda) cc)) (execs (iB msg q0 q1 q2 q3 q4 q5 r1 r2 r3 r4) (ksEnv (cn ++ ".__init__") iS hp.objs.size fI (.ref cda) cc)) _ _ _
  generalize henv : ksEnv (cn ++ ".__init__") iS hp.objs.size fI (.ref cda) cc = env
  have kd : env.scope.kind = .function := by rw [← henv] <;> rfl
  have kloc : ∀ {y : Str}, iS.names.lookup y = some .local → env.kindOf y = some .local := fun {y} e => by rw [← henv]; exact e
  have hL : env.locals = hp.objs.size := by rw [← henv] <;> rfl
  have hn' : h₁.Ns env.locals (fun y => ([("self", .ref x), ("at", v)] : List (Str × Value)).reverse.lookup y) := by rw [hL]; exact hn
  refine ks_wpAt_execs_cons (ks_wpAt_Expr_any (ks_wpAt_MethodCall (pl := pl env) ?_ (hev _)) (by rw [← henv] <;> rfl) (by rfl))
  refine ks_wpAt_super_base (f := fI) (cc := cda) (fd := ksFn "__init__" (cn ++ ".__init__") (iA p1 p2) (iB msg q0 q1 q2 q3 q4 q5 r1 r2 r3 r4) iS .none .none doc pm an (.ref cda) ct cc) (by rw [← henv] <;> rfl) (by rw [← henv] <;> rfl) (by decide) (by rw [← henv] <;> rfl) (X₁ _ _ ho) rfl (ar := { arg := "self", annotation := none, pos := p1 }) rfl (by rw [← henv] <;> rfl) (X₁ _ _ hcda) rfl hvs hfile T.htop ?_
  refine ks_loadName_global kd (by rw [← henv] <;> rfl) (loadGlobal_builtin (mb := mb) (by rw [← henv]; exact G.keeps k) T.nos (by rw [← henv]; exact B.keeps k) hb ⟨rfl, ?_⟩)
  refine wpAny_loadName_free kd (by rw [← henv] <;> rfl) (by rw [← henv] <;> rfl) ⟨_, X₁ _ _ hcc, rfl⟩ ?_
  refine wpAny_loadName_local kd (kloc rfl) hn' (by first | rfl | with_unfolding_all rfl | kernel_rfl) ?_
  have hCd : h₁.get? C = some (excClassObj nm q C N bs bm true sn sub ab col dd k0 k1 k2 k3 k5 "ValueError.__new__") := X₁ _ _ hC
  refine ks_wpAny_isType_cls hCd rfl ⟨rfl, ?_⟩
  refine ks_wpAny_call_super hCd rfl hx₁ rfl (fun c z => by cases z) (looks_mroIn X₁ T.me) (fun h₂ e2 k2 => ?_)
  have X₂ : K.In h₂ := X₁.keeps k2
  have hx₂ := k2 _ _ hx₁
  have hC₂ := k2 _ _ hCd
  have hsup := T.sup
  unfold ks_superIn at hsup
  rw [hcl] at hsup
  have I₂ : InstAt h₂ x (excO C t0) C none := ⟨hx₂, rfl, rfl, trivial⟩
  refine kxs_getMethod kxs_ValueError e2 (looks_opaque X₂ T.opq) (l₀ := .ref C :: bm) (fun A Q E s k q => wpAny_bind ((looks_clsIn X₂ hcl) A _ E s k (wpAny_pure q))) rfl X₂ hsup (I₂.type.andThen (looks_subIn X₂ T.veC)) hxC (by decide) ?_
  have hu : (h₂.push (kxs_mw "ValueError.__init__" x)).get? h₂.objs.size = some (kxs_mw "ValueError.__init__" x) := Heap.get?_push_at rfl rfl
  have k3 : ∀ b o, h₂.get? b = some o → (h₂.push (kxs_mw "ValueError.__init__" x)).get? b = some o := fun b o e => Heap.get?_push_of_some _ e
  refine kxs_callWith (i := "ValueError.__init__") (x := x) (by rfl) ?_
  refine evalArgs_plain (Calls.spliced_cons (Calls.Constant_str (k := 0) (pos := q3) (Calls.spliced_nil ⟨hu, ?_⟩)))
  refine ve_call (k3 _ _ hC₂) (k3 _ _ hx₂) hu (one_size _) fun h₄ t1 k4 hx₄ => ?_
  -- self.at = at
  have kA : ∀ b o, b ≠ x → h₁.get? b = some o → h₄.get? b = some o := fun b o hb e => k4 b o hb (k3 b o (k2 b o e))
  have X₄ : K.In h₄ := fun a o e => kA a o (fun z => by rw [z, hnx] at e; cases e) (X₁ a o e)
  have hn₄ : h₄.Ns env.locals (fun y => ([("self", .ref x), ("at", v)] : List (Str × Value)).reverse.lookup y) := by
    obtain ⟨o, es, ep, e1, r⟩ := hn'
    exact ⟨o, es, ep, kA _ _ (by rw [hL]; exact hxL) e1, r⟩
  refine wpAt_of_wpAny (wpAny_execs_cons (plainObj_wpAny_Assign_Attribute ?_))
  refine wpAny_Name (wpAny_loadName_local kd (kloc rfl) hn₄ (v := v) (by first | rfl | with_unfolding_all rfl | kernel_rfl) ?_) (by decide)
  refine wpAny_Name (wpAny_loadName_local kd (kloc rfl) hn₄ (v := .ref x) (by first | rfl | with_unfolding_all rfl | kernel_rfl) ?_) (by decide)
  refine set_plain X₄ (ox := excO C t1) (od := none) ⟨hx₄, rfl, rfl, trivial⟩ T.sa ?_
  refine exc_osa X₄ hx₄ hcl (show refsVE (.ref C :: bm) = true from hbm) rfl T.noN (fun h₅ tk₅ dx k₅ dn dne hx₅ hn₅ => ?_)
  show wpAny _ _ (execs _ _) _ _ _
  refine wpAny_execs_nil (hq h₅ tk₅ dx t1 ⟨fun b o hb e => k₅ b o hb (kA b o hb (k b o e)), hx₅, ?_, dne, hn₅⟩)
  obtain ⟨oL, _, _, hoL, _⟩ := hn₄
  rw [hL] at hoL
  exact Nat.le_of_lt (Nat.lt_of_lt_of_le (Heap.lt_size hoL) dn)
theorem err_made (T : ErrTxt prog K mg cn C fI) {v : Value} (X : K.In s.heap) (hlim : s.heap.NoLimit) (G : s.heap.Ns mainGlobals mg) (B : s.heap.Ns builtinsNs mb) (hb : mb "super" = some (.type "super")) (hroom : A.depth + 1 < recursionLimit)
    (hq : ∀ h' tk e d, Made s.heap h' e C d v → R (.ok (.ret (.ref e))) { s with heap := h', toks := tk }) :
    codeAny (model prog w) A (.call (.ref C) ⟨[v], []⟩) R s := by
  obtain ⟨nm, q, N, bs, bm, sn, sub, ab, col, dd, k0, k1, k2, k3, k5, hC, hbm⟩ := T.cls
  obtain ⟨hp, g, dr, tk, os⟩ := s
  have k : ∀ b o, hp.get? b = some o → ((hp.push (kdv_tup [v])).push (excO C hp.objs.size)).get? b = some o := fun b o e => Heap.get?_push_of_some _ (Heap.get?_push_of_some _ e)
  have hget : ((hp.push (kdv_tup [v])).push (excO C hp.objs.size)).get? (hp.objs.size + 1) = some (excO C hp.objs.size) := by heap_get
  have hnx : K.lookup (hp.objs.size + 1) = none := by
    cases e : K.lookup (hp.objs.size + 1) with
    | none => rfl
    | some o =>
      have z : hp.get? (hp.objs.size + 1) = some o := X _ _ e
      exact absurd (Nat.lt_of_succ_lt (Heap.lt_size z)) (Nat.lt_irrefl _)
  refine call_own F.excBase_ValueError (fun X => refsVE_contains X bm hbm) (X _ _ hC) (looks_findIn X T.iC) (fun self => bind_fn X self T.tC) (one_size v) ?_
  refine err_init (mb := mb) (s := ⟨(hp.push (kdv_tup [v])).push (excO C hp.objs.size), g, dr, tk, os⟩) T (X.keeps k) (hlim.keeps k) (G.keeps k) (B.keeps k) hb hget hnx ?_ fun h' tk' dx t1 ⟨k', hx, dn, dne, hns⟩ => ?_
  · show A.depth + 1 < recursionLimit
    exact hroom
  · have old : ∀ b o, hp.get? b = some o → h'.get? b = some o := fun b o e => k' b o (Nat.ne_of_lt (Nat.lt_succ_of_lt (Heap.lt_size e))) (k b o e)
    have z : hp.objs.size + 1 + 1 ≤ dx := by
      first
        | (simpa only [Heap.size_push] using dn)
        | exact dn
        | (have q := dn; rw [Heap.size_push, Heap.size_push] at q; exact q)
    exact ⟨rfl, hq h' tk' (hp.objs.size + 1) dx ⟨old, Nat.le_succ _, ⟨_, _, hx, rfl, rfl, rfl, rfl⟩, Nat.le_trans (Nat.le_trans (Nat.le_succ _) (Nat.le_succ _)) z, dne, hns⟩⟩
end
end K7X
end PySem

namespace K7
open PySem PySem.Spec PyProof.Rows L2
/-- the own dict of such an error -/
abbrev atF (v : V) : HO := .xd [(("at" : Str), v)]
theorem relO_at {v : V} {v' : Value} (r : RelV v v') (f : Str) : RelO (List.lookup f [(("at" : Str), v)]) (if f = "at" then some v' else none) := by
  by_cases hw : f = "at"
  · subst hw
    rw [if_pos rfl]
    have q : List.lookup ("at" : Str) [(("at" : Str), v)] = some v := by simp [List.lookup]
    rw [q]
    exact r
  · rw [if_neg hw]
    have qw : (f == ("at" : Str)) = false := by simpa using hw
    have q2 : List.lookup f [(("at" : Str), v)] = none := by simp [List.lookup, qw]
    rw [q2]
    trivial
section
variable {X : Cx} {C fI : Addr} {cn : Str}
/-- cn(e) -/
def tMkErr (C : Addr) (ta : TA) : L2.St → Hp → XK → Prop := fun σ H Q => ta σ H fun vs H1 => ∃ v, vs = [v] ∧ ∀ d, H1 d = none → Q (.ref C) (some d) (upd H1 d (atF v))
theorem pmk_err {a : Expr} {ta : TA} {p pos : Pos} {k : Nat} (T : PySem.K7X.ErrTxt X.prog X.K X.mg cn C fI) (hr : Room k X.A) (ha : PA X [a] ta) (hg : Gl X cn) (hd : (cn == ("__debug__" : Str)) = false := by decide)
    (he : starEach (a :: []) X.env = (false, eval a X.env) :: starEach [] X.env := by rfl) (hpl : (backTo pos (starEach [] X.env)).any (·.1) = false := by rfl) :
    PMk X (.Call (.Name cn p) [a] [] pos) (tMkErr C ta) := by
  intro pins s σ H Q I h
  refine wpAny_Call_Name_kw (ld_glob I hg T.gC ?_ hd)
  refine PySem.W.callWith_K (h₀ := X.base) I.ok.mod.kin T.kC (thn (ha.run pos pins s σ H _ I h) fun us s1 hh => ?_) he hpl
  obtain ⟨vs, H1, I1, r1, v, ev, q1⟩ := hh
  subst ev
  refine ⟨I1.kIn, ?_⟩
  cases r1 with
  | cons rv rn =>
    rename_i v' us'
    cases rn
    show wpAny _ _ (call (.ref C) [v']) _ _ _
    have hlim := I1.nolimit
    obtain ⟨mb, hb1, hb2⟩ := I1.mod.blt
    have G := I1.mod.glob.keeps I1.bk
    have B := hb1.keeps I1.bk
    obtain ⟨hp, g, dr, tk, os⟩ := s1
    refine wpAny_call (PySem.K7X.err_made (mb := mb) T I1.kIn hlim G B ((hb2 _ (by decide)).trans (by decide +kernel)) (by have := hr.dp; omega) fun h' tk' e d M => ?_)
    show MkP X pins σ Q (.ref e) ⟨h', g, dr, tk', os⟩
    obtain ⟨oe, fv, hoe, hc, hd, hdat, h1⟩ := M.obj
    have hns := M.ns
    obtain ⟨G', g1, g2⟩ := restrict h' fun b => decide (b ≠ e)
    have gk : ∀ b, b ≠ e → G'.get? b = h'.get? b := fun b hb => g1 b (decide_eq_true hb)
    have ge : G'.get? e = none := g2 e (by simp)
    have old : ∀ b o, hp.get? b = some o → G'.get? b = some o := fun b o q => (gk b (Nat.ne_of_lt (Nat.lt_of_lt_of_le (Heap.lt_size q) M.new))).trans (M.keep b o q)
    have ob : ObjOk X.prog X.w (upd H1 d (atF v)) G' d (atF v) :=
      ⟨_, hns.at (fun o q => (gk d M.dne).trans q), fun f => relO_at rv f⟩
    have J : Inv X pins σ (upd H1 d (atF v)) ⟨G', g, dr, tk', os⟩ := I1.laid (t' := tk') old M.dbig ob
    refine ⟨e, oe, fv, ⟨G', g, dr, tk', os⟩, _, .ref C, some d, rfl, J, fun b o q => ?_, ge, hoe, ⟨hc, hd⟩, hdat, h1, ?_, rfl, I1.bare, raises_own T.exC T.tyC, q1 d (I1.hok.fresh M.dbig)⟩
    · by_cases hb : b = e
      · have q' : G'.get? b = some o := q
        rw [hb, ge] at q'; cases q'
      · exact (gk b hb).symm.trans q
    · rw [upd_ne (Ne.symm M.dne)]
      exact I1.hok.fresh M.new
/-- raise cn(e) -/
def tRaiseErr (C : Addr) (W : WX) (ta : TA) : TS := fun _ σ H => tMkErr C ta σ H fun cls d H' => W cls d σ H'
theorem ps_raiseErr {a : Expr} {ta : TA} {W : WX} {p pos pos2 : Pos} {k : Nat} (hc : X.calm = true) (T : PySem.K7X.ErrTxt X.prog X.K X.mg cn C fI) (hr : Room k X.A) (tk : Takes X W) (ha : PA X [a] ta) (hg : Gl X cn := by rfl) (hd : (cn == ("__debug__" : Str)) = false := by decide)
    (he : starEach (a :: []) X.env = (false, eval a X.env) :: starEach [] X.env := by rfl) (hpl : (backTo pos (starEach [] X.env)).any (·.1) = false := by rfl) :
    PS X (.Raise (some (.Call (.Name cn p) [a] [] pos)) none pos2) (tRaiseErr C W ta) := ps_raise hc tk (pmk_err T hr ha hg hd he hpl)
/-- n.at, n the exception that the suite holds (at a; its class cls, its dict d) -/
def tByAt (C : Addr) (a : Addr) (cls : Value) (d : Option Addr) (te : TE) : TE := fun σ H Q => te σ H fun x H1 => x = .ref a ∧ cls = .ref C ∧ ∃ (dd : Addr) (v : V), d = some dd ∧ H1 dd = some (atF v) ∧ Q v H1
theorem pe_byAt {a : Addr} {oe : Obj} {cls : Value} {d : Option Addr} {pn : List (Addr × Obj)} {e : Expr} {te : TE} {pos : Pos} (T : PySem.K7X.ErrTxt X.prog X.K X.mg cn C fI) (hz : Zc cls d oe) (hf : ∃ vs, oe.data = .fields vs) (he : PE (X.suite a ((a, oe) :: pn)) e te)
    (hb : attributeBase e "at" X.env (eval e X.env) = eval e X.env := by rfl) :
    PE (X.suite a ((a, oe) :: pn)) (.Attribute e "at" pos) (tByAt C a cls d te) := by
  refine ⟨fun pins s σ H Q I h => ?_⟩
  refine attr_of hb (thn (he.run pins s σ H _ I h) fun u s1 hh => ?_)
  obtain ⟨x, H1, I1, rx, ex, ec, dd, v, ed, ea, q⟩ := hh
  subst ex
  obtain rfl : u = Value.ref a := rx
  subst ec
  subst ed
  obtain ⟨ha, _⟩ := I1.pin (a, oe) (List.mem_append_left _ List.mem_cons_self)
  obtain ⟨vs, hd⟩ := hf
  have hx : ObjOk X.prog X.w H1 s1.heap dd (atF v) := I1.hok dd _ ea
  obtain ⟨mA, hns, hr⟩ := hx
  obtain ⟨od, ho, hl⟩ := lookIn_ns hns
  have l : List.lookup ("at" : Str) [(("at" : Str), v)] = some v := by simp [List.lookup]
  obtain ⟨u, hu, ru⟩ := RelO.some_of (v := v) (o := mA "at") (by rw [← l]; exact hr "at")
  have J : PySem.W.InstAt s1.heap a oe C (some od) := ⟨ha, hz.1, by unfold PySem.W.notCls; rw [hd] <;> rfl, by rw [hz.2]; exact ho⟩
  exact HandSPX.exc_get I1.kIn J T.ga T.gg T.exC (PySem.W.findObj_own T.hdC T.noN rfl (by rw [hl, hu])) (handed_of ru) ⟨v, H1, I1.tok _, ru, q⟩
end
end K7
end

section
-- K7Text
set_option Elab.async false
set_option linter.all false
set_option maxRecDepth 100000
/-! The text of the row by places. -/
namespace K7
open PySem PySem.Spec PyProof.Rows L2
abbrev Pg : Program := PySem.Challenge.pw_foursfold_k07_whole_hands_and_the_plain
def top (i : Nat) : Stmt := PySem.Challenge.pw_foursfold_k07_whole_hands_and_the_plain.main.body.getD i (.Pass ⟨0, 0, 0, 0⟩)
abbrev sIsInteger : Stmt := top 13
abbrev sIsNumber : Stmt := top 14
abbrev sIsBelow : Stmt := top 15
abbrev sIsSequence : Stmt := top 16
abbrev sIsEnd : Stmt := top 18
abbrev sCheckRows : Stmt := top 19
abbrev sEndsOf : Stmt := top 20
abbrev sUnsoundThree : Stmt := top 21
abbrev sCheckQueue : Stmt := top 23
abbrev sPlacesOf : Stmt := top 24
abbrev sMergeablePlaces : Stmt := top 25
abbrev sIsFolded : Stmt := top 26
abbrev sPressLast : Stmt := top 28
abbrev sPlainSteps : Stmt := top 29
abbrev sPlainFold : Stmt := top 30
abbrev sPlainWay : Stmt := top 31
abbrev sCanFold : Stmt := top 33
abbrev sFoldedOnce : Stmt := top 34
abbrev sFoldAt : Stmt := top 35
abbrev sWayEnd : Stmt := top 36
abbrev sLBox : Stmt := top 38
abbrev sLTake : Stmt := top 39
abbrev sLPick : Stmt := top 40
abbrev sLMerger : Stmt := top 41
abbrev sLRows : Stmt := top 42
abbrev sLEnd : Stmt := top 43
abbrev sLIsSound : Stmt := top 44
abbrev sLQueue : Stmt := top 45
abbrev sLOnce : Stmt := top 46
abbrev sLHeard : Stmt := top 47
abbrev sLPile : Stmt := top 48
abbrev sLHandsRight : Stmt := top 49
abbrev sLLongRight : Stmt := top 50
abbrev sLPlainRight : Stmt := top 51
abbrev sLaw : Stmt := top 52
abbrev siBadQueue : Stmt := inClass (top 4) 0
abbrev siBadWay : Stmt := inClass (top 5) 0
abbrev siRefused : Stmt := inClass (top 6) 0
abbrev siMerger : Stmt := inClass (top 22) 0
abbrev FnP (K : PySem.W.Frag) (x : Str) (st : Stmt) (f : Addr) (fd : FuncData) : Prop := FunD K x x (defArgs st) (defBody st) (defScope st) [] [] f fd
abbrev MtP (K : PySem.W.Frag) (x q : Str) (st : Stmt) (f : Addr) (fd : FuncData) : Prop := FunD K x q (defArgs st) (defBody st) (defScope st) [] [] f fd
end K7
end

section
-- K7Try
set_option Elab.async false
set_option linter.all false
set_option maxRecDepth 100000
set_option maxHeartbeats 2000000
/-! try: .. with several clauses «except X as n», all under one name n. -/
namespace K7
open PySem PySem.Spec PyProof.Rows L2
/-- behind a suite the name is gone -/
def D_ (i : Nat) (D : Ends) : Ends := { nx := fun σ H => D.nx (σ.set i none) H, rt := D.rt, bk := fun σ H => D.bk (σ.set i none) H, ct := fun σ H => D.ct (σ.set i none) H }
/-- what the clauses wish of an exception: the first one that takes it -/
def wMA (K : PySem.W.Frag) (i : Nat) (Wout : WX) (D : Ends) : List (Value × (Addr → Value → Option Addr → TS)) → WX
  | [] => Wout
  | q :: r => fun cls d σ H => ∃ b, PySem.W.exmOne K cls q.1 = some b ∧ (b = true → ∀ a, H a = none → q.2 a cls d (D_ i D) (σ.set i (some (.ref a))) H) ∧ (b = false → wMA K i Wout D r cls d σ H)
/-- the clauses' texts -/
inductive ClsA (X : Cx) (n : Str) : List ExceptHandler → List (Value × (Addr → Value → Option Addr → TS)) → Prop
  | nil : ClsA X n [] []
  | cons {x : Str} {c : Value} {ts : Addr → Value → Option Addr → TS} {st : Stmt} {sts : List Stmt} {np hp : Pos} {hs : List ExceptHandler} {l : List (Value × (Addr → Value → Option Addr → TS))} (names : Names X x c)
      (suite : ∀ (a : Addr) (oe : Obj) (cls : Value) (d : Option Addr) (pn : List (Addr × Obj)), Zc cls d oe → (∃ vs, oe.data = .fields vs) → PSs (X.suite a ((a, oe) :: pn)) (st :: sts) (ts a cls d)) (rest : ClsA X n hs l) :
      ClsA X n (.ExceptHandler (some (.Name x np)) (some n) (st :: sts) hp :: hs) ((c, ts) :: l)
section
variable {X : Cx} {n : Str} {i : Nat} {body : List Stmt} {hd : ExceptHandler} {hds : List ExceptHandler} {l : List (Value × (Addr → Value → Option Addr → TS))} {pos : Pos} {tb : WX → TS} {Wout : WX}
/-- what stands when the exception at a has landed: its own facts, and the frame's -/
structure Down (X : Cx) (pins : List (Addr × Obj)) (σ : L2.St) (H : Hp) (B : Heap) (a : Addr) (cls : Value) (d : Option Addr) (sI s : Shared) : Prop where
  at_ : Inv X pins σ H sI
  nb : ∀ b o, sI.heap.get? b = some o → b ∉ frs X.stack → B.get? b = some o
  up : sI.heap.UpToSlots s.heap
  fl : HandSPX.FlyingZ B (X.env :: X.outer) a (Zc cls d) s.heap
  na : H a = none
  os : s.os = sI.os
  bare : AllBare s.gens
theorem Down.inv {pins : List (Addr × Obj)} {σ : L2.St} {H : Hp} {B : Heap} {a : Addr} {cls : Value} {d : Option Addr} {sI s : Shared} (z : Down X pins σ H B a cls d sI s) : Inv X pins σ H s := z.at_.landed z.nb z.fl.1 z.up z.os z.bare
theorem Down.off {pins : List (Addr × Obj)} {σ : L2.St} {H : Hp} {B : Heap} {a : Addr} {cls : Value} {d : Option Addr} {sI s : Shared} (z : Down X pins σ H B a cls d sI s) : a ∉ frs (X.env :: X.outer) := fun hm => by
  obtain ⟨oe, vs, e, _, dt⟩ := z.fl.there
  obtain ⟨_, o, e2, nf⟩ := z.fl.2.2.1.mem hm
  rw [e] at e2
  cases e2
  exact nf _ dt
theorem Down.suite (hf : X.env.frame = some X.env.locals) {pins : List (Addr × Obj)} {σ : L2.St} {H : Hp} {B : Heap} {a : Addr} {cls : Value} {d : Option Addr} {sI s : Shared} (z : Down X pins σ H B a cls d sI s) :
    ∃ oe, Zc cls d oe ∧ (∃ vs, oe.data = .fields vs) ∧ s.heap.get? a = some oe ∧ Inv (X.suite a ((a, oe) :: (X.pn ++ pins))) [] σ H s := by
  obtain ⟨oe, vs, e, hz, dt⟩ := z.fl.there
  have off := z.off
  have n1 : a ≠ X.env.locals := fun q => off (List.mem_filterMap.mpr ⟨X.env, List.mem_cons_self, by rw [hf, q]⟩)
  have n2 : a ∉ X.fs := fun hm => by
    obtain ⟨e1, m1, q1⟩ := List.mem_filterMap.mp hm
    exact off (List.mem_filterMap.mpr ⟨e1, List.mem_cons_of_mem _ m1, q1⟩)
  exact ⟨oe, hz, ⟨vs, dt⟩, e, z.inv.suite e dt z.na n1 n2⟩
/-- no clause takes it: it goes on -/
theorem clauses_out (hs : X.stack = X.env :: X.outer) (hf : X.env.frame = some X.env.locals) (tk : Takes X Wout) {D : Ends} {pins : List (Addr × Obj)} {σ : L2.St} {H : Hp} {B : Heap} {a : Addr} {cls : Value} {d : Option Addr} {sI s : Shared} (z : Down X pins σ H B a cls d sI s)
    (w : Wout cls d σ H) : wpAny (model X.prog X.w) X.A (handleBy (.ref a) X.env []) (SP X pins D) X.xe s := by
  refine wpAny_handleBy_nil ?_
  obtain ⟨oe, vs, T, _, _, e, _, dt, f1, _⟩ := z.fl.2.2.2
  have go : wpAny (model X.prog X.w) X.A (setFlight (.ref a) X.env.frame) (fun _ s4 => wpAny (model X.prog X.w) X.A (throw (.ref a) : Sem Flow) (SP X pins D) X.xe s4) X.xe s := by
    rw [hf]
    refine HandSPX.setFlight_upZ z.fl fun h4 held u4 => wpAny_throw (tk _ _ ⟨a, B, sI, pins, σ, H, cls, d, rfl, z.at_, z.nb, z.up.trans u4, .inr (.inr ?_), z.na, z.os, z.bare, w⟩)
    rw [hs]
    exact held
  unfold PySem.passOn
  refine wpAny_bind (wpAny_field e dt f1 ?_)
  rw [if_neg (show ¬ ((Value.ref T == Value.none) = true) from by simp)]
  first
    | exact wpAny_bind (wpAny_pure (wpAny_bind go))
    | exact wpAny_bind go
/-- the clauses, one by one -/
theorem clauses_run (hs : X.stack = X.env :: X.outer) (hf : X.env.frame = some X.env.locals) (hN : X.N.Nodup) (hi : X.N[i]? = some n) (hln : X.env.kindOf n = some .local) (tk : Takes X Wout) {D : Ends} {pins : List (Addr × Obj)} {σ : L2.St} {H : Hp} {B : Heap} {a : Addr} {cls : Value} {d : Option Addr} {sI s : Shared}
    (z : Down X pins σ H B a cls d sI s) {hds : List ExceptHandler} {l : List (Value × (Addr → Value → Option Addr → TS))} (hk : ClsA X n hds l) (w : wMA X.K i Wout D l cls d σ H) :
    wpAny (model X.prog X.w) X.A (handleBy (.ref a) X.env hds) (SP X pins D) X.xe s := by
  induction hk with
  | nil => exact clauses_out hs hf tk z w
  | @cons x c ts st sts np hp hds2 l2 names su rest ih =>
    obtain ⟨b, e1, yes, no⟩ := w
    obtain ⟨oe, hz, _, he, S⟩ := z.suite hf
    refine wpAny_handleBy_cons (codeAny_handlers_test ?_) (by intro q; cases q)
    have looks : PySem.W.Looks (model X.prog X.w) s.heap (typeOf (.ref a)) cls := fun A Q E s k q => wpAny_typeOf_ref (k _ _ he) (by rw [hz.1]; exact q)
    have ask := PySem.W.exm_one (M := model X.prog X.w) z.inv.kIn looks e1
    have name : ∀ {Q : Value → Shared → Prop} {E : Value → Shared → Prop}, Q c s → wpAny (model X.prog X.w) (X.A.mark (some (.ref a))) (eval (.Name x np) X.env) Q E s := fun {Q E} q => by
      obtain ⟨g1, g2, g3⟩ := names
      rcases g3 with g | ⟨g, g4, g5⟩
      · exact ld_glob (X := X.suite a ((a, oe) :: (X.pn ++ pins))) S g1 g q g2
      · exact ld_blt (X := X.suite a ((a, oe) :: (X.pn ++ pins))) S g1 g g4 q g5 g2
    refine name (ask.here ?_)
    cases b with
    | false => exact ih (no rfl)
    | true =>
      refine codeAny_handlers_suite_as ?_
      refine HandSPX.lands_againZ z.fl fun h4 fl4 u4 => ?_
      have z4 : Down X pins σ H B a cls d sI { s with heap := h4 } := ⟨z.at_, z.nb, z.up.trans u4, fl4, z.na, z.os, z.bare⟩
      obtain ⟨oe4, hz4, hv4, _, S4⟩ := z4.suite hf
      refine store_ok (X := X.suite a ((a, oe4) :: (X.pn ++ pins))) (v := .ref a) S4 hN hi (.inl hln) rfl (fun s5 S5 => ?_) (.inr hln)
      refine wpAny_mono ((su a oe4 cls d (X.pn ++ pins) hz4 hv4).run [] s5 _ H (D_ i D) S5 (yes rfl a z.na)) (fun f s6 q6 => ?_) (fun _ _ q => False.elim q)
      have gone : ∀ {σ6 : L2.St} {H6 : Hp} {Q : Shared → Prop}, Inv (X.suite a ((a, oe4) :: (X.pn ++ pins))) [] σ6 H6 s6 → (∀ s7, Inv X pins (σ6.set i none) H6 s7 → Q s7) →
          wpAny (model X.prog X.w) X.A (do bindName X.env n .none; unbindBehindTheSuite X.env n hp) (fun _ s7 => Q s7) X.xe s6 := fun {σ6 H6 Q} S6 hq => gone_ok (S6.unsuite z.at_.ok) hN hi hln hq
      cases f with
      | ret u =>
        obtain ⟨v6, _, _, S6, r6, q⟩ := q6
        exact gone S6 fun s7 J7 => ⟨_, _, _, J7, r6, q⟩
      | next =>
        obtain ⟨_, _, S6, q⟩ := q6
        exact gone S6 fun s7 J7 => ⟨_, _, J7, q⟩
      | brk =>
        obtain ⟨_, _, S6, q⟩ := q6
        exact gone S6 fun s7 J7 => ⟨_, _, J7, q⟩
      | cont =>
        obtain ⟨_, _, S6, q⟩ := q6
        exact gone S6 fun s7 J7 => ⟨_, _, J7, q⟩
theorem ps_tryA (hs : X.stack = X.env :: X.outer) (hf : X.env.frame = some X.env.locals) (hN : X.N.Nodup) (hi : X.N[i]? = some n) (hln : X.env.kindOf n = some .local) (tk : Takes X Wout)
    (hb : ∀ (W : WX) (pn : List (Addr × Obj)) (xe : Value → Shared → Prop), Takes (X.tr pn xe) W → PassesOwn (model X.prog X.w) X.A X.env xe → PSs (X.tr pn xe) body (tb W))
    (hh : ClsA X n (hd :: hds) l) : PS X (.Try body (hd :: hds) [] [] pos) (fun D σ H => tb (wMA X.K i Wout D l) D σ H) := by
  refine ⟨fun pins s σ H D I h => ?_⟩
  have ok := I.ok
  have hfr : X.A.frames = some (X.env :: X.outer) := by rw [ok.frames, hs]
  refine wpAny_Try_except ?_
  have inner := hb (wMA X.K i Wout D l) (X.pn ++ pins) (fun e s₁ => wpAny (model X.prog X.w) X.A (noteFrame e X.env) (fun _ s₂ => wpAny (model X.prog X.w) X.A (setFlight e none) (fun _ s₃ => wpAny (model X.prog X.w) X.A (handleBy e X.env (hd :: hds)) (SP X pins D) X.xe s₃) X.xe s₂) X.xe s₁)
    (fun u s' air => by
      obtain ⟨a, B, sI, pins', σ', H', cls, d, rfl, J, nb, up, sky, na, os, ag, w⟩ := air
      refine Sky.land Zc.steady hfr hf (by rw [← hs]; exact sky) fun h3 fl3 u3 => ?_
      exact clauses_run hs hf hN hi hln tk (s := { s' with heap := h3 }) ⟨J.ofTry ok, nb, up.trans u3, fl3, na, os, ag⟩ hh w) PassesOwn.looking
  refine wpAny_mono (inner.run [] s σ H D (I.toTry _) h) (fun f s1 q => ?_) (fun _ _ e => e)
  cases f with
  | next =>
    obtain ⟨_, _, J, q⟩ := q
    exact wpAny_execs_nil ⟨_, _, J.ofTry ok, q⟩
  | brk =>
    obtain ⟨_, _, J, q⟩ := q
    exact ⟨_, _, J.ofTry ok, q⟩
  | cont =>
    obtain ⟨_, _, J, q⟩ := q
    exact ⟨_, _, J.ofTry ok, q⟩
  | ret u =>
    obtain ⟨_, _, _, J, r, q⟩ := q
    exact ⟨_, _, _, J.ofTry ok, r, q⟩
end
end K7
end

section
-- K7Enum
set_option Elab.async false
set_option linter.all false
set_option maxRecDepth 100000
set_option maxHeartbeats 2000000
/-! enumerate over whatever has a next: a tuple, a zip of two tuples (whose own pair stays out while the enumerate's pair holds it). -/
namespace PySem
namespace K7E
open PySem.W PyProof.Rows
/-- a zip's record: v the pair it gave out (an address as a number) or None, f the mark beside it -/
abbrev ZipF (h : Heap) (z TI TO : Addr) (v : Value) (f : Bool) : Prop :=
  h.get? z = some { cls := .type "zip", dict := none, data := .fields #[v, .bool f, .bool false, .ref TI, .ref TO], slots := #[] }
def OutV (v : Value) : Prop := v = .none ∨ ∃ T : Addr, v = rawInt T
section
variable {prog : Program} {w : World} {A : Around} {E : Value → Shared → Prop} {s : Shared}
/-- is the pair free? either; where it is not, the mark is set -/
theorem zipF_free {z TI TO : Addr} {v : Value} {f : Bool} {Q : Bool → Shared → Prop} (hz : ZipF s.heap z TI TO v f) (hv : OutV v) (h1 : Q true s) (h2 : ∀ h', ZipF h' z TI TO v true → Heap.SameBut z s.heap h' → Q false { s with heap := h' }) :
    wpAny (model prog w) A (Builtin.SmallTypes.ownedTupleIsFree (.ref z)) Q E s := by
  unfold Builtin.SmallTypes.ownedTupleIsFree
  refine wpAny_bind (wpAny_field hz rfl (x := v) rfl ?_)
  rcases hv with rfl | ⟨T, rfl⟩
  · exact wpAny_pure h1
  · show wpAny _ _ (loadIfAlive ((T : Int).toNat) >>= _) _ _ _
    rw [Int.toNat_natCast]
    have alive : ∀ {R : Option Obj → Shared → Prop}, R (s.heap.get? T) s → wpAny (model prog w) A (loadIfAlive T) R E s := fun h => fun _ _ _ => h
    refine wpAny_bind (alive ?_)
    cases s.heap.get? T with
    | none => exact wpAny_pure h1
    | some oT =>
      simp only [Option.isNone_some, Bool.false_eq_true, if_false]
      refine wpAny_bind (wpAny_field hz rfl (x := .bool f) rfl ?_)
      cases f with
      | true =>
        rw [if_neg (show ¬ ((Value.bool true != Value.bool true) = true) from Bool.false_ne_true)]
        exact wpAny_pure (h2 s.heap hz (Heap.SameBut.refl _ _))
      | false =>
        rw [if_pos (show (Value.bool false != Value.bool true) = true from rfl)]
        exact wpAny_bind (wpAny_setField_rec hz (by simp) fun h₁ hz₁ hs₁ => wpAny_pure (h2 h₁ hz₁ hs₁))
variable {z TI TO i1 i2 l1 l2 : Addr} {k1 k2 : Nat} {xs ys : Array Value} {x y a b v : Value} {f : Bool}
/-- what a zip of two tuples is at a turn -/
structure ZipSt (h : Heap) (z TI TO i1 i2 l1 l2 : Addr) (k : Nat) : Prop where
  rcd : ∃ v f, ZipF h z TI TO v f ∧ OutV v
  its : IsPair h TI (.ref i1) (.ref i2)
  out : ∃ a b, IsPair h TO a b
  one : h.IsTupleIter i1 l1 k
  two : h.IsTupleIter i2 l2 k
theorem ZipSt.keeps {h h' : Heap} {k : Nat} (st : ZipSt h z TI TO i1 i2 l1 l2 k) (kp : ∀ c ∈ [z, TI, TO, i1, i2], ∀ o, h.get? c = some o → h'.get? c = some o) : ZipSt h' z TI TO i1 i2 l1 l2 k := by
  obtain ⟨⟨v, f, hz, hv⟩, h1, ⟨a, b, h2⟩, h3, h4⟩ := st
  exact ⟨⟨v, f, kp z (by simp) _ hz, hv⟩, kp TI (by simp) _ h1, ⟨a, b, kp TO (by simp) _ h2⟩, h3.at fun o e => kp i1 (by simp) o e, h4.at fun o e => kp i2 (by simp) o e⟩
/-- its next item: a new pair -/
theorem zipF_item {k : Nat} {Q : Value → Shared → Prop} (D : ZipApart z TI TO i1 i2 l1 l2) (st : ZipSt s.heap z TI TO i1 i2 l1 l2 k) (hl1 : s.heap.IsTuple l1 xs) (hl2 : s.heap.IsTuple l2 ys) (hx : xs[k]? = some x) (hy : ys[k]? = some y)
    (hQ : ∀ h', ZipSt h' z TI TO i1 i2 l1 l2 (k + 1) → IsPair h' s.heap.objs.size x y → h'.objs.size = s.heap.objs.size + 1 → (∀ c o, c ≠ z → c ≠ TO → c ≠ i1 → c ≠ i2 → s.heap.get? c = some o → h'.get? c = some o) →
      Q (.ref s.heap.objs.size) { s with heap := h' }) :
    wpAny (model prog w) A (Builtin.«zip.__next__» ⟨[.ref z], []⟩) (fun fin s' => ∃ v, fin = .done (.ret v) ∧ Q v s') E s := by
  obtain ⟨⟨v, f, hz, hv⟩, hTI, ⟨a, b, hTO⟩, h1, h2⟩ := st
  show wpAny _ _ (field (.ref z) 2 >>= _) _ _ _
  refine wpAny_bind (wpAny_field hz rfl (x := .bool false) rfl ?_)
  show wpAny _ _ (field (.ref z) 3 >>= _) _ _ _
  refine wpAny_bind (wpAny_field hz rfl (x := .ref TI) rfl ?_)
  refine wpAny_bind (wpAny_seqItems hTI rfl ?_)
  show wpAny _ _ (Builtin.SmallTypes.ownedTupleIsFree (.ref z) >>= _) _ _ _
  refine wpAny_bind (zipF_free hz hv ?_ fun h₁ hz₁ hs₁ => ?_)
  · -- the pair again
    simp only [if_true]
    refine wpAny_bind (wpAny_rule ?_)
    refine wpAny_bind (wpAny_field hz rfl (x := .ref TO) rfl ?_)
    refine wpAny_bind (wpAny_setField_rec hz (by simp) fun h₁ hz₁ hs₁ => ?_)
    replace hz₁ : ZipF h₁ z TI TO .ellipsis f := hz₁
    refine wpAny_bind ?_
    simp only [List.zipIdx_cons, List.zipIdx_nil, List.forIn_cons, List.forIn_nil]
    refine wpAny_bind (wpAny_bind (wpAny_onRaise ?_))
    show wpAny _ _ (Builtin.SmallTypes.nextOf (.ref i1) >>= _) _ _ _
    refine wpAny_bind (wpAny_nextOf_tuple_item (h1.extBut hs₁.extBut D.i1z) (hl1.at fun o e => hs₁.extBut _ _ D.l1z e) hx fun h₂ h1₂ hs₂ => wpAny_pure ?_)
    have hTO₂ : IsPair h₂ TO a b := hs₂.extBut _ _ D.TOi1 (hs₁.extBut _ _ D.TOz hTO)
    refine wpAny_bind (wpAny_seqItems hTO₂ rfl ?_)
    refine wpAny_bind (wpAny_updateSeq_pair hTO₂ fun h₃ hTO₃ hs₃ => ?_)
    replace hTO₃ : IsPair h₃ TO x b := hTO₃
    refine wpAny_bind (wpAny_letGo (wpAny_pure ?_))
    refine wpAny_bind (wpAny_bind (wpAny_onRaise ?_))
    show wpAny _ _ (Builtin.SmallTypes.nextOf (.ref i2) >>= _) _ _ _
    refine wpAny_bind (wpAny_nextOf_tuple_item (((h2.extBut hs₁.extBut D.i2z).extBut hs₂.extBut D.i12.symm).extBut hs₃.extBut D.TOi2.symm)
      (hl2.at fun o e => hs₃.extBut _ _ D.l2TO (hs₂.extBut _ _ D.l2i1 (hs₁.extBut _ _ D.l2z e))) hy fun h₄ h2₄ hs₄ => wpAny_pure ?_)
    have hTO₄ : IsPair h₄ TO x b := hs₄.extBut _ _ D.TOi2 hTO₃
    refine wpAny_bind (wpAny_seqItems hTO₄ rfl ?_)
    refine wpAny_bind (wpAny_updateSeq_pair hTO₄ fun h₅ hTO₅ hs₅ => ?_)
    replace hTO₅ : IsPair h₅ TO x y := hTO₅
    refine wpAny_bind (wpAny_letGo (wpAny_pure (wpAny_pure ?_)))
    refine wpAny_bind (wpAny_seqItems hTO₅ rfl ?_)
    refine wpAny_bind (wpAny_newTuple ?_)
    have hsz : h₅.objs.size = s.heap.objs.size := by rw [hs₅.1, hs₄.1, hs₃.1, hs₂.1, hs₁.1]
    have hz₅ : ZipF h₅ z TI TO .ellipsis f := hs₅.extBut _ _ D.TOz.symm (hs₄.extBut _ _ D.i2z.symm (hs₃.extBut _ _ D.TOz.symm (hs₂.extBut _ _ D.i1z.symm hz₁)))
    have kp : ∀ c o, c ≠ z → c ≠ TO → c ≠ i1 → c ≠ i2 → s.heap.get? c = some o → h₅.get? c = some o := fun c o c1 c2 c3 c4 e =>
      hs₅.extBut _ _ c2 (hs₄.extBut _ _ c4 (hs₃.extBut _ _ c2 (hs₂.extBut _ _ c3 (hs₁.extBut _ _ c1 e))))
    have j1 : h₅.IsTupleIter i1 l1 (k + 1) := ((h1₂.extBut hs₃.extBut D.TOi1.symm).extBut hs₄.extBut D.i12).extBut hs₅.extBut D.TOi1.symm
    have j2 : h₅.IsTupleIter i2 l2 (k + 1) := h2₄.extBut hs₅.extBut D.TOi2.symm
    have zl : z < h₅.objs.size := Heap.lt_size hz₅
    show wpAny _ _ (Builtin.SmallTypes.ownedTupleHandOut (.ref z) (.ref h₅.objs.size) >>= _) _ _ _
    refine wpAny_bind ?_
    unfold Builtin.SmallTypes.ownedTupleHandOut
    have hz₆ : ZipF (h₅.push { cls := .type "tuple", data := .seq #[x, y] }) z TI TO .ellipsis f := Heap.get?_push_of_some _ hz₅
    refine wpAny_bind (wpAny_setField_rec hz₆ (by simp) fun h₇ hz₇ hs₇ => ?_)
    replace hz₇ : ZipF h₇ z TI TO (rawInt h₅.objs.size) f := hz₇
    refine wpAny_setField_rec hz₇ (by simp) fun h₈ hz₈ hs₈ => ?_
    replace hz₈ : ZipF h₈ z TI TO (rawInt h₅.objs.size) false := hz₈
    have up : ∀ c o, c ≠ z → h₅.get? c = some o → h₈.get? c = some o := fun c o c1 e => hs₈.extBut _ _ c1 (hs₇.extBut _ _ c1 (Heap.get?_push_of_some _ e))
    have pr : IsPair h₈ h₅.objs.size x y := hs₈.extBut _ _ (Nat.ne_of_gt zl) (hs₇.extBut _ _ (Nat.ne_of_gt zl) (Heap.get?_push_size _ rfl))
    have hz8 : h₈.objs.size = h₅.objs.size + 1 := by rw [hs₈.1, hs₇.1, Heap.size_push]
    refine wpAny_pure ⟨_, rfl, ?_⟩
    show Q (.ref h₅.objs.size) _
    rw [hsz] at pr hz8 ⊢
    exact hQ h₈ ⟨⟨_, _, hz₈, .inr ⟨_, rfl⟩⟩, up _ _ D.TIz (kp _ _ D.TIz D.TITO D.TIi1 D.TIi2 hTI), ⟨x, y, up _ _ D.TOz hTO₅⟩, j1.at fun o e => up _ o D.i1z e, j2.at fun o e => up _ o D.i2z e⟩ pr hz8 fun c o c1 c2 c3 c4 e => up c o c1 (kp c o c1 c2 c3 c4 e)
  · -- a further pair
    simp only [Bool.false_eq_true, if_false]
    refine wpAny_bind ?_
    rw [← Array.forIn_toList]
    simp only [List.forIn_cons, List.forIn_nil]
    refine wpAny_bind (wpAny_bind (wpAny_holding ?_))
    show wpAny _ _ (Builtin.SmallTypes.nextOf (.ref i1) >>= _) _ _ _
    refine wpAny_bind (wpAny_nextOf_tuple_item (s := { s with heap := h₁ }) (h1.extBut hs₁.extBut D.i1z) (hl1.at fun o e => hs₁.extBut _ _ D.l1z e) hx fun h₂ h1₂ hs₂ => wpAny_pure ?_)
    refine wpAny_pure ?_
    refine wpAny_bind (wpAny_bind (wpAny_holding ?_))
    show wpAny _ _ (Builtin.SmallTypes.nextOf (.ref i2) >>= _) _ _ _
    refine wpAny_bind (wpAny_nextOf_tuple_item (s := { s with heap := h₂ }) ((h2.extBut hs₁.extBut D.i2z).extBut hs₂.extBut D.i12.symm) (hl2.at fun o e => hs₂.extBut _ _ D.l2i1 (hs₁.extBut _ _ D.l2z e)) hy fun h₃ h2₃ hs₃ => wpAny_pure ?_)
    refine wpAny_pure (wpAny_pure ?_)
    show wpAny _ _ (newTuple [x, y] >>= _) _ _ _
    refine wpAny_bind (wpAny_newTuple ?_)
    have hsz : h₃.objs.size = s.heap.objs.size := by rw [hs₃.1, hs₂.1, hs₁.1]
    have hz₃ : ZipF h₃ z TI TO v true := hs₃.extBut _ _ D.i2z.symm (hs₂.extBut _ _ D.i1z.symm hz₁)
    have kp : ∀ c o, c ≠ z → c ≠ i1 → c ≠ i2 → s.heap.get? c = some o → h₃.get? c = some o := fun c o c1 c2 c3 e => hs₃.extBut _ _ c3 (hs₂.extBut _ _ c2 (hs₁.extBut _ _ c1 e))
    have j1 : h₃.IsTupleIter i1 l1 (k + 1) := h1₂.extBut hs₃.extBut D.i12
    refine wpAny_pure ⟨_, rfl, ?_⟩
    show Q (.ref h₃.objs.size) _
    have up : ∀ c o, h₃.get? c = some o → (h₃.push { cls := .type "tuple", data := .seq #[x, y] }).get? c = some o := fun c o e => Heap.get?_push_of_some _ e
    have pr : IsPair (h₃.push { cls := .type "tuple", data := .seq #[x, y] }) h₃.objs.size x y := Heap.get?_push_size _ rfl
    have hz4 : (h₃.push { cls := .type "tuple", data := .seq #[x, y] }).objs.size = h₃.objs.size + 1 := Heap.size_push ..
    have st' : ZipSt (h₃.push { cls := .type "tuple", data := .seq #[x, y] }) z TI TO i1 i2 l1 l2 (k + 1) :=
      ⟨⟨_, _, up _ _ hz₃, hv⟩, up _ _ (kp _ _ D.TIz D.TIi1 D.TIi2 hTI), ⟨a, b, up _ _ (kp _ _ D.TOz D.TOi1 D.TOi2 hTO)⟩, j1.at fun o e => up _ o e, h2₃.at fun o e => up _ o e⟩
    rw [hsz] at pr hz4 ⊢
    exact hQ _ st' pr hz4 fun c o c1 _ c3 c4 e => up c o (kp c o c1 c3 c4 e)
/-- its end -/
theorem zipF_end {k : Nat} {Q : Fin → Shared → Prop} (hh : A.handled = none) (D : ZipApart z TI TO i1 i2 l1 l2) (st : ZipSt s.heap z TI TO i1 i2 l1 l2 k) (hl1 : s.heap.IsTuple l1 xs) (hl2 : s.heap.IsTuple l2 ys) (hend : xs[k]? = none ∨ ys[k]? = none)
    (hE : ∀ h' e, (∀ c o, c ≠ z → c ≠ TO → c ≠ i1 → c ≠ i2 → s.heap.get? c = some o → h'.get? c = some o) → (∃ o, h'.get? e = some o ∧ o.cls = .type "StopIteration") → E (.ref e) { s with heap := h' }) :
    wpAny (model prog w) A (Builtin.«zip.__next__» ⟨[.ref z], []⟩) Q E s := by
  obtain ⟨⟨v, f, hz, hv⟩, hTI, ⟨a, b, hTO⟩, h1, h2⟩ := st
  show wpAny _ _ (field (.ref z) 2 >>= _) _ _ _
  refine wpAny_bind (wpAny_field hz rfl (x := .bool false) rfl ?_)
  show wpAny _ _ (field (.ref z) 3 >>= _) _ _ _
  refine wpAny_bind (wpAny_field hz rfl (x := .ref TI) rfl ?_)
  refine wpAny_bind (wpAny_seqItems hTI rfl ?_)
  show wpAny _ _ (Builtin.SmallTypes.ownedTupleIsFree (.ref z) >>= _) _ _ _
  refine wpAny_bind (zipF_free hz hv ?_ fun h₁ hz₁ hs₁ => ?_)
  · simp only [if_true]
    refine wpAny_bind (wpAny_rule ?_)
    refine wpAny_bind (wpAny_field hz rfl (x := .ref TO) rfl ?_)
    refine wpAny_bind (wpAny_setField_rec hz (by simp) fun h₁ hz₁ hs₁ => ?_)
    replace hz₁ : ZipF h₁ z TI TO .ellipsis f := hz₁
    refine wpAny_bind ?_
    simp only [List.zipIdx_cons, List.zipIdx_nil, List.forIn_cons, List.forIn_nil]
    refine wpAny_bind (wpAny_bind (wpAny_onRaise ?_))
    show wpAny _ _ (Builtin.SmallTypes.nextOf (.ref i1) >>= _) _ _ _
    cases hx : xs[k]? with
    | none =>
      refine wpAny_bind (wpAny_nextOf_tuple_end hh (h1.extBut hs₁.extBut D.i1z) (hl1.at fun o e => hs₁.extBut _ _ D.l1z e) hx fun h₂ e hs₂ he => ?_)
      obtain ⟨oe, hoe, hce⟩ := he
      have hz₂ : ZipF h₂ z TI TO .ellipsis f := hs₂ _ _ D.i1z.symm hz₁
      have hez : e ≠ z := fun q => by subst q; rw [hz₂] at hoe; cases hoe; simp at hce
      refine wpAny_setField_rec hz₂ (by simp) fun h₃ _ hs₃ => hE h₃ e (fun c o c1 _ c3 _ q => hs₃.extBut _ _ c1 (hs₂ _ _ c3 (hs₁.extBut _ _ c1 q))) ⟨oe, hs₃.extBut _ _ hez hoe, hce⟩
    | some x =>
      have hy : ys[k]? = none := by rcases hend with h | h; rw [hx] at h; cases h; exact h
      refine wpAny_bind (wpAny_nextOf_tuple_item (h1.extBut hs₁.extBut D.i1z) (hl1.at fun o e => hs₁.extBut _ _ D.l1z e) hx fun h₂ h1₂ hs₂ => wpAny_pure ?_)
      have hTO₂ : IsPair h₂ TO a b := hs₂.extBut _ _ D.TOi1 (hs₁.extBut _ _ D.TOz hTO)
      refine wpAny_bind (wpAny_seqItems hTO₂ rfl ?_)
      refine wpAny_bind (wpAny_updateSeq_pair hTO₂ fun h₃ hTO₃ hs₃ => ?_)
      refine wpAny_bind (wpAny_letGo (wpAny_pure ?_))
      refine wpAny_bind (wpAny_bind (wpAny_onRaise ?_))
      show wpAny _ _ (Builtin.SmallTypes.nextOf (.ref i2) >>= _) _ _ _
      refine wpAny_bind (wpAny_nextOf_tuple_end hh (((h2.extBut hs₁.extBut D.i2z).extBut hs₂.extBut D.i12.symm).extBut hs₃.extBut D.TOi2.symm)
        (hl2.at fun o e => hs₃.extBut _ _ D.l2TO (hs₂.extBut _ _ D.l2i1 (hs₁.extBut _ _ D.l2z e))) hy fun h₄ e hs₄ he => ?_)
      obtain ⟨oe, hoe, hce⟩ := he
      have hz₄ : ZipF h₄ z TI TO .ellipsis f := hs₄ _ _ D.i2z.symm (hs₃.extBut _ _ D.TOz.symm (hs₂.extBut _ _ D.i1z.symm hz₁))
      have hez : e ≠ z := fun q => by subst q; rw [hz₄] at hoe; cases hoe; simp at hce
      refine wpAny_setField_rec hz₄ (by simp) fun h₅ _ hs₅ => hE h₅ e (fun c o c1 c2 c3 c4 q => hs₅.extBut _ _ c1 (hs₄ _ _ c4 (hs₃.extBut _ _ c2 (hs₂.extBut _ _ c3 (hs₁.extBut _ _ c1 q))))) ⟨oe, hs₅.extBut _ _ hez hoe, hce⟩
  · simp only [Bool.false_eq_true, if_false]
    refine wpAny_bind ?_
    rw [← Array.forIn_toList]
    simp only [List.forIn_cons, List.forIn_nil]
    refine wpAny_bind (wpAny_bind (wpAny_holding ?_))
    show wpAny _ _ (Builtin.SmallTypes.nextOf (.ref i1) >>= _) _ _ _
    cases hx : xs[k]? with
    | none =>
      refine wpAny_bind (wpAny_nextOf_tuple_end (s := { s with heap := h₁ }) hh (h1.extBut hs₁.extBut D.i1z) (hl1.at fun o e => hs₁.extBut _ _ D.l1z e) hx fun h₂ e hs₂ he => ?_)
      exact hE h₂ e (fun c o c1 _ c2 _ q => hs₂ _ _ c2 (hs₁.extBut _ _ c1 q)) he
    | some x =>
      have hy : ys[k]? = none := by rcases hend with h | h; rw [hx] at h; cases h; exact h
      refine wpAny_bind (wpAny_nextOf_tuple_item (s := { s with heap := h₁ }) (h1.extBut hs₁.extBut D.i1z) (hl1.at fun o e => hs₁.extBut _ _ D.l1z e) hx fun h₂ h1₂ hs₂ => wpAny_pure ?_)
      refine wpAny_pure ?_
      refine wpAny_bind (wpAny_bind (wpAny_holding ?_))
      show wpAny _ _ (Builtin.SmallTypes.nextOf (.ref i2) >>= _) _ _ _
      refine wpAny_bind (wpAny_nextOf_tuple_end (s := { s with heap := h₂ }) hh ((h2.extBut hs₁.extBut D.i2z).extBut hs₂.extBut D.i12.symm) (hl2.at fun o e => hs₂.extBut _ _ D.l2i1 (hs₁.extBut _ _ D.l2z e)) hy fun h₃ e hs₃ he => ?_)
      exact hE h₃ e (fun c o c1 _ c2 c3 q => hs₃ _ _ c3 (hs₂.extBut _ _ c2 (hs₁.extBut _ _ c1 q))) he
end
end K7E
end PySem
end

section
-- K7EnumB
set_option Elab.async false
set_option linter.all false
set_option maxRecDepth 100000
set_option maxHeartbeats 2000000
namespace PySem
namespace K7E
open PySem.W PyProof.Rows
section
variable {prog : Program} {w : World} {A : Around} {E : Value → Shared → Prop} {s : Shared}
/-- the body of an enumerate's next, whatever stands within -/
theorem enumG_next {e it : Addr} {i : Int} {old : Value} {R : Value → Heap → Prop} {Q : Value → Shared → Prop} (he : IsEnum s.heap e it i old)
    (N : ∀ (E' Q' : Value → Shared → Prop), (∀ x h₁, R x h₁ → Q' x { s with heap := h₁ }) → wpAny (model prog w) A (Builtin.SmallTypes.nextOf (.ref it)) Q' E' s)
    (hR : ∀ x h₁, R x h₁ → IsEnum h₁ e it i old)
    (hQ : ∀ x h₁ h', R x h₁ → IsEnumOut h' e it (i + 1) x h₁.objs.size → h'.get? h₁.objs.size = some { cls := .type "tuple", data := .seq #[.int i s.toks, x] } → h'.objs.size = h₁.objs.size + 1 →
      (∀ b o, b ≠ e → h₁.get? b = some o → h'.get? b = some o) → Q (.ref h₁.objs.size) { s with heap := h', toks := s.toks + 1 }) :
    wpAny (model prog w) A (Builtin.«enumerate.__next__» ⟨[.ref e], []⟩) (fun fin s' => ∃ v, fin = .done (.ret v) ∧ Q v s') E s := by
  obtain ⟨hp, g, d, tk, os⟩ := s
  show wpAny _ _ (field (.ref e) 2 >>= _) _ _ _
  refine wpAny_bind (wpAny_field he rfl (x := .ref it) rfl ?_)
  refine wpAny_bind (N _ _ fun x h₁ r => ?_)
  have he₁ : IsEnum h₁ e it i old := hR x h₁ r
  have hel : e < h₁.objs.size := Heap.lt_size he₁
  show wpAny _ _ (field (.ref e) 3 >>= _) _ _ ⟨h₁, g, d, tk, os⟩
  refine wpAny_bind (wpAny_field he₁ rfl (x := rawInt i) rfl ?_)
  show wpAny _ _ (field (.ref e) 4 >>= _) _ _ ⟨h₁, g, d, tk, os⟩
  refine wpAny_bind (wpAny_field he₁ rfl (x := .none) rfl ?_)
  show wpAny _ _ (mkInt i >>= _) _ _ ⟨h₁, g, d, tk, os⟩
  refine wpAny_bind (wpAny_mkInt ?_)
  show wpAny _ _ (setField (.ref e) 3 (rawInt (i + 1)) >>= _) _ _ ⟨h₁, g, d, tk + 1, os⟩
  refine wpAny_bind (wpAny_setField_rec he₁ (by simp) fun h₂ he₂ hs₂ => ?_)
  replace hs₂ : Heap.SameBut e h₁ h₂ := hs₂
  replace he₂ : IsEnum h₂ e it (i + 1) old := he₂
  show wpAny _ _ (setField (.ref e) 4 .none >>= _) _ _ ⟨h₂, g, d, tk + 1, os⟩
  refine wpAny_bind (wpAny_setField_rec he₂ (by simp) fun h₃ he₃ hs₃ => ?_)
  replace hs₃ : Heap.SameBut e h₂ h₃ := hs₃
  replace he₃ : IsEnum h₃ e it (i + 1) old := he₃
  show wpAny _ _ (newTuple [.int i tk, x] >>= _) _ _ ⟨h₃, g, d, tk + 1, os⟩
  refine wpAny_bind (wpAny_newTuple ?_)
  have he₄ : IsEnum (h₃.push { cls := .type "tuple", data := .seq #[.int i tk, x] }) e it (i + 1) old := Heap.get?_push_of_some _ he₃
  generalize hh₄ : h₃.push { cls := .type "tuple", data := .seq #[.int i tk, x] } = h₄ at he₄
  have hsz : h₃.objs.size = h₁.objs.size := by rw [hs₃.1, hs₂.1]
  have ht₄ : h₄.get? h₁.objs.size = some { cls := .type "tuple", data := .seq #[.int i tk, x] } := by rw [← hh₄, ← hsz]; exact Heap.get?_push_size _ rfl
  have hz₄ : h₄.objs.size = h₁.objs.size + 1 := by rw [← hh₄, Heap.size_push, hsz]
  have hk₄ : ∀ b o, b ≠ e → h₁.get? b = some o → h₄.get? b = some o := fun b o hbe hb => by
    rw [← hh₄]; exact Heap.get?_push_of_some _ (hs₃.extBut b o hbe (hs₂.extBut b o hbe hb))
  show wpAny _ _ (Builtin.SmallTypes.ownedTupleIsFree (.ref e) >>= _) _ _ ⟨h₄, g, d, tk + 1, os⟩
  rw [hsz]
  clear hh₄ he₃ hs₃ he₂ hs₂ hsz h₃ h₂
  refine wpAny_bind ?_
  · unfold Builtin.SmallTypes.ownedTupleIsFree
    refine wpAny_bind (wpAny_field he₄ rfl (x := .none) rfl (wpAny_pure ?_))
    simp only [if_true]
    refine wpAny_bind (wpAny_rule ?_)
    refine wpAny_bind (wpAny_field he₄ rfl (x := old) rfl ?_)
    refine wpAny_bind (wpAny_setField_rec he₄ (by simp) fun h₅ he₅ hs₅ => ?_)
    replace hs₅ : Heap.SameBut e h₄ h₅ := hs₅
    replace he₅ : IsEnum h₅ e it (i + 1) x := he₅
    show wpAny _ _ (Builtin.SmallTypes.ownedTupleHandOut (.ref e) (.ref h₁.objs.size) >>= _) _ _ ⟨h₅, g, d, tk + 1, os⟩
    refine wpAny_bind ?_
    · unfold Builtin.SmallTypes.ownedTupleHandOut
      refine wpAny_bind (wpAny_setField_rec he₅ (by simp) fun h₆ he₆ hs₆ => ?_)
      replace hs₆ : Heap.SameBut e h₅ h₆ := hs₆
      replace he₆ : IsEnumOut h₆ e it (i + 1) x h₁.objs.size := he₆
      refine wpAny_setField_rec he₆ (by simp) fun h₇ he₇ hs₇ => ?_
      replace hs₇ : Heap.SameBut e h₆ h₇ := hs₇
      replace he₇ : IsEnumOut h₇ e it (i + 1) x h₁.objs.size := he₇
      refine wpAny_bind (wpAny_letGo (wpAny_pure ⟨_, rfl, hQ x h₁ h₇ r he₇ ?_ ?_ ?_⟩))
      · exact hs₇.extBut _ _ (Nat.ne_of_gt hel) (hs₆.extBut _ _ (Nat.ne_of_gt hel) (hs₅.extBut _ _ (Nat.ne_of_gt hel) ht₄))
      · rw [hs₇.1, hs₆.1, hs₅.1, hz₄]
      · exact fun b o hbe hb => hs₇.extBut b o hbe (hs₆.extBut b o hbe (hs₅.extBut b o hbe (hk₄ b o hbe hb)))
theorem enumG_item {e it : Addr} {i : Int} {old : Value} {R : Value → Heap → Prop} {Q : Option Value → Shared → Prop} (he : IsEnum s.heap e it i old)
    (N : ∀ (A' : Around) (E' Q' : Value → Shared → Prop), (∀ x h₁, R x h₁ → Q' x { s with heap := h₁ }) → wpAny (model prog w) A' (Builtin.SmallTypes.nextOf (.ref it)) Q' E' s)
    (hR : ∀ x h₁, R x h₁ → IsEnum h₁ e it i old)
    (hQ : ∀ x h₁ h', R x h₁ → IsEnumOut h' e it (i + 1) x h₁.objs.size → h'.get? h₁.objs.size = some { cls := .type "tuple", data := .seq #[.int i s.toks, x] } → h'.objs.size = h₁.objs.size + 1 →
      (∀ b o, b ≠ e → h₁.get? b = some o → h'.get? b = some o) → Q (some (.ref h₁.objs.size)) { s with heap := h', toks := s.toks + 1 }) :
    wpAny (model prog w) A (pyNext (.ref e)) Q E s := by
  have hT : s.TypeIs (.ref e) "enumerate" := ⟨_, he, rfl⟩
  unfold pyNext
  exact wpAny_bind (wpAny_attempt (wpAny_callSpecial?_slot (name := Str.ofString "__next__") hT F.slot_enumerate_next
    (wpAny_call_entry F.slot_enumerate_next hT F.entry_enumerate_next
      (enumG_next he (N _) hR fun x h₁ h' a b c d k => wpAny_pure (hQ x h₁ h' a b c d k)) (F.args_enumerate_next_1 _))))
theorem enumG_end {e it : Addr} {i : Int} {old : Value} {R : Heap → Prop} {Q : Option Value → Shared → Prop} (hh : A.handled = none) (he : IsEnum s.heap e it i old)
    (N : ∀ (A' : Around) (Q' : Value → Shared → Prop) (E' : Value → Shared → Prop), A'.handled = none → (∀ h' x, R h' → (∃ o, h'.get? x = some o ∧ o.cls = .type "StopIteration") → E' (.ref x) { s with heap := h' }) → wpAny (model prog w) A' (Builtin.SmallTypes.nextOf (.ref it)) Q' E' s)
    (hQ : ∀ h', R h' → Q none { s with heap := h' }) : wpAny (model prog w) A (pyNext (.ref e)) Q E s := by
  have hT : s.TypeIs (.ref e) "enumerate" := ⟨_, he, rfl⟩
  unfold pyNext
  refine wpAny_bind (wpAny_attempt (wpAny_callSpecial?_slot (name := Str.ofString "__next__") hT F.slot_enumerate_next
    (wpAny_call_entry F.slot_enumerate_next hT F.entry_enumerate_next ?_ (F.args_enumerate_next_1 _))))
  show wpAny _ _ (field (.ref e) 2 >>= _) _ _ _
  refine wpAny_bind (wpAny_field he rfl (x := .ref it) rfl ?_)
  refine wpAny_bind (N _ _ _ hh fun h' x r hx' => ?_)
  obtain ⟨o, ho, hc⟩ := hx'
  refine wpAny_bind (wpAny_isInstance (T := "StopIteration") (b := true) ⟨o, ho, hc⟩ isSubtype_stop ?_)
  exact wpAny_pure (hQ _ r)
/-- enumerate made of what has an own iterator (one new object), or is one -/
theorem enumT_made (a : Addr) (items : Array Value) :
    Meets (Builtin.«enumerate.__new__» ⟨[.type "enumerate", .ref a], []⟩) (fun _ R s => s.heap.IsTuple a items ∧
      R (.ok (.ret (.ref (s.heap.push { cls := .type "tuple_iterator", data := .fields #[.ref a, .int 0 0] }).objs.size)))
        { s with heap := (s.heap.push { cls := .type "tuple_iterator", data := .fields #[.ref a, .int 0 0] }).push { cls := .type "enumerate", data := .fields #[.none, .bool false, .ref s.heap.objs.size, rawInt 0, .none, .none] } }) :=
  .of_wp fun prog w A R s h => by
    obtain ⟨hp, g, d, tk, os⟩ := s; obtain ⟨h1, h⟩ := h
    have hsub := sub_enumerate
    have hL : Heap.IsTuple (Shared.heap ⟨hp, g, d, tk, os⟩) a items := h1
    wp_walk using wpAny_pyIter_tuple hL
    refine wpAny_stack_any fun st => wpAny_pure ?_
    split
    · rename_i c _ _ _ _ _
      cases (c == Value.type "enumerate")
      · wp_walk using wpAny_pyIter_tuple hL
        exact ⟨_, rfl, h⟩
      · wp_walk using wpAny_pyIter_tuple hL
        exact ⟨_, rfl, h⟩
    · wp_walk using wpAny_pyIter_tuple hL
      exact ⟨_, rfl, h⟩
theorem enumZ_made (z TI TO : Addr) :
    Meets (Builtin.«enumerate.__new__» ⟨[.type "enumerate", .ref z], []⟩) (fun _ R s => IsZip s.heap z TI TO .none ∧
      R (.ok (.ret (.ref s.heap.objs.size)))
        { s with heap := s.heap.push { cls := .type "enumerate", data := .fields #[.none, .bool false, .ref z, rawInt 0, .none, .none] } }) :=
  .of_wp fun prog w A R s h => by
    obtain ⟨hp, g, d, tk, os⟩ := s; obtain ⟨h1, h⟩ := h
    have hsub := sub_enumerate
    have hL : IsZip (Shared.heap ⟨hp, g, d, tk, os⟩) z TI TO .none := h1
    wp_walk using wpAny_pyIter_zip hL
    refine wpAny_stack_any fun st => wpAny_pure ?_
    split
    · rename_i c _ _ _ _ _
      cases (c == Value.type "enumerate")
      · wp_walk using wpAny_pyIter_zip hL
        exact ⟨_, rfl, h⟩
      · wp_walk using wpAny_pyIter_zip hL
        exact ⟨_, rfl, h⟩
    · wp_walk using wpAny_pyIter_zip hL
      exact ⟨_, rfl, h⟩
theorem call_enumT {a : Addr} {items : Array Value} {Q : Value → Shared → Prop} (hL : s.heap.IsTuple a items)
    (h : ∀ h', IsEnum h' (s.heap.objs.size + 1) s.heap.objs.size 0 .none → h'.IsTupleIter s.heap.objs.size a 0 →
      (∀ b o, s.heap.get? b = some o → h'.get? b = some o) → Q (.ref (s.heap.objs.size + 1)) { s with heap := h' }) :
    wpAny (model prog w) A (call (.type "enumerate") [.ref a]) Q E s := by
  refine callType_new F.called_enumerate (by decide) (F.typeCall_enumerate_1 _) (F.newCall_enumerate_1 _) (fun obj => F.args_object_init_2 obj _) F.entry_enumerate_new
    (enumT_made a items) ⟨hL, ?_⟩
  have hz : (s.heap.push { cls := .type "tuple_iterator", data := .fields #[.ref a, .int 0 0] }).objs.size = s.heap.objs.size + 1 := Heap.size_push ..
  show _ ∧ _
  rw [hz]
  have he : IsEnum ((s.heap.push { cls := .type "tuple_iterator", data := .fields #[.ref a, .int 0 0] }).push
      { cls := .type "enumerate", data := .fields #[.none, .bool false, .ref s.heap.objs.size, rawInt 0, .none, .none] }) (s.heap.objs.size + 1) s.heap.objs.size 0 .none := by
    have := Heap.get?_push_size (s.heap.push { cls := .type "tuple_iterator", data := .fields #[.ref a, .int 0 0] })
      (o := { cls := .type "enumerate", data := .fields #[.none, .bool false, .ref s.heap.objs.size, rawInt 0, .none, .none] }) rfl
    rw [hz] at this; exact this
  exact ⟨⟨_, he, rfl⟩, h _ he ⟨_, Heap.get?_push_of_some _ (Heap.get?_push_size _ rfl), rfl, rfl⟩ fun b o x => Heap.get?_push_of_some _ (Heap.get?_push_of_some _ x)⟩
theorem call_enumZ {z TI TO : Addr} {Q : Value → Shared → Prop} (hL : IsZip s.heap z TI TO .none)
    (h : ∀ h', IsEnum h' s.heap.objs.size z 0 .none → (∀ b o, s.heap.get? b = some o → h'.get? b = some o) → Q (.ref s.heap.objs.size) { s with heap := h' }) :
    wpAny (model prog w) A (call (.type "enumerate") [.ref z]) Q E s := by
  refine callType_new F.called_enumerate (by decide) (F.typeCall_enumerate_1 _) (F.newCall_enumerate_1 _) (fun obj => F.args_object_init_2 obj _) F.entry_enumerate_new
    (enumZ_made z TI TO) ⟨hL, ?_⟩
  show _ ∧ _
  have he : IsEnum (s.heap.push { cls := .type "enumerate", data := .fields #[.none, .bool false, .ref z, rawInt 0, .none, .none] }) s.heap.objs.size z 0 .none := Heap.get?_push_size _ rfl
  exact ⟨⟨_, he, rfl⟩, h _ he fun b o x => Heap.get?_push_of_some _ x⟩
end
end K7E
end PySem
end

section
-- K7EnumC
set_option Elab.async false
set_option linter.all false
set_option maxRecDepth 100000
set_option maxHeartbeats 2000000
namespace K7
open PySem PySem.Spec PyProof.Rows L2 PySem.K7E
/-- enumerate over the tuple at a -/
def IteT (K : PySem.W.Frag) (a : Addr) : It :=
  ⟨fun i H => ∃ (xs : List V) (x : V), SqT K H a xs ∧ xs[i]? = some x, fun i H v H' => ∃ T x, v = .ref T ∧ H T = none ∧ H' = upd H T (.tup [.int (i : Nat), x]) ∧ ∀ xs, SqT K H a xs → xs[i]? = some x, fun i H => ∃ xs : List V, SqT K H a xs ∧ xs.length ≤ i⟩
theorem turn_enumT {P : Program} {w : World} {K : PySem.W.Frag} {elts : List Expr} {kk : Nat} {tpos : Pos} (a e it : Addr) :
    Turn P w K (.Tuple elts kk tpos) (IteT K a) [e, it] e (fun i h => (∃ old, IsEnum h e it ((i : Nat) : Int) old) ∧ h.IsTupleIter it a i ∧ e ≠ it) where
  mem := by simp
  obj := fun i h st b hb => by
    obtain ⟨⟨old, he⟩, ⟨o, ho, hc, hd⟩, _⟩ := st
    have e' : b = e ∨ b = it := by simpa using hb
    rcases e' with z | z
    · rw [z]; exact ⟨_, he, fun v q => nomatch q⟩
    · rw [z]; exact ⟨o, ho, fun v q => by rw [hd] at q; cases q⟩
  keep := fun i h h' st k => let ⟨⟨old, he⟩, hi, hne⟩ := st; ⟨⟨old, k e (by simp) _ he⟩, hi.at fun o q => k it (by simp) o q, hne⟩
  item := by
    intro X hP hw hK hc i pins s σ H E I hf st hg
    subst hP hw hK
    obtain ⟨⟨old, he⟩, hit, hne⟩ := st
    obtain ⟨xs, x, hq, hx⟩ := hg
    obtain ⟨its, rv, p, hz⟩ := I.tuple hq
    obtain ⟨u, hu, ru⟩ := rv.get hx
    have hel : e < s.heap.objs.size := Heap.lt_size he
    have hil : it < s.heap.objs.size := by obtain ⟨_, q, _⟩ := hit; exact Heap.lt_size q
    refine enumG_item (R := fun y h₁ => y = u ∧ h₁.IsTupleIter it a (i + 1) ∧ Heap.SameBut it s.heap h₁) he
      (fun A' E' Q' q => wpAny_nextOf_tuple_item hit p (x := u) (by simpa using hu) fun h' h1 h2 => q _ _ ⟨rfl, h1, h2⟩)
      (fun y h₁ r => (r.2.2.2 e hne).trans he) fun y h₁ h' r ho hT hsz hk => ?_
    obtain ⟨rfl, hit₁, hs₁⟩ := r
    have e1 : h₁.objs.size = s.heap.objs.size := hs₁.1
    rw [e1] at ho hT hsz ⊢
    refine ⟨_, rfl, wpAny_letOwnedTupleGo_enum (s := { s with heap := h', toks := s.toks + 1 }) ho fun h'' he' sb => ?_⟩
    have hT2 : h''.get? s.heap.objs.size = some { cls := .type "tuple", data := .seq #[.int i s.toks, y] } := (sb.2 _ (Nat.ne_of_gt hel)).trans hT
    have new : ObjOk X.prog X.w (upd H s.heap.objs.size (.tup [.int (i : Nat), x])) h'' s.heap.objs.size (.tup [.int (i : Nat), x]) :=
      ⟨by show 2 ≤ sizeLine; decide, [.int i s.toks, y], .cons ⟨_, rfl⟩ (.cons ru .nil), ⟨_, hT2, rfl, _, rfl⟩⟩
    have I1 : Inv X pins σ (upd H s.heap.objs.size (.tup [.int (i : Nat), x])) { s with heap := h'', toks := s.toks + 1 } :=
      I.turnedNew (ch := [e, it]) (fun b ob hb q => (sb.2 b (fun z => hb (by simp [z]))).trans (hk b ob (fun z => hb (by simp [z])) (hs₁.extBut b ob (fun z => hb (by simp [z])) q))) hf (Nat.le_refl _) new
    refine ⟨.ref s.heap.objs.size, _, I1, rfl, ⟨_, x, rfl, I.hok.fresh (Nat.le_refl _), rfl, fun ys hy => by rw [I.tuple_inj hy hq]; exact hx⟩, ⟨⟨y, ?_⟩, hit₁.at fun o q => (sb.2 it (Ne.symm hne)).trans (hk it o (Ne.symm hne) q), hne⟩, fun b hb => ?_⟩
    · have e1 : ((i + 1 : Nat) : Int) = (i : Int) + 1 := by omega
      rw [e1]; exact he'
    · have hb' : b < s.heap.objs.size := by
        have e' : b = e ∨ b = it := by simpa using hb
        rcases e' with z | z
        · rw [z]; exact hel
        · rw [z]; exact hil
      rw [upd_ne (Nat.ne_of_lt hb')]
      exact (hf b hb).1
  done := by
    intro X hP hw hK hc i pins s σ H E I hf st hg
    subst hP hw hK
    obtain ⟨⟨old, he⟩, hit, hne⟩ := st
    obtain ⟨xs, hq, hx⟩ := hg
    obtain ⟨its, rv, p, hz⟩ := I.tuple hq
    obtain ⟨f0, f1, f2, f3, f4, f5⟩ := hf it (by simp)
    have hl := rv.length
    exact enumG_end (R := fun h' => Heap.ExtBut it s.heap h') (I.ok.hd hc) he (fun A' Q' E' hh q => wpAny_nextOf_tuple_end hh hit p (by simp; omega) fun h' x h1 h2 => q h' x h1 h2)
      fun h' eb => ⟨rfl, I.turned (t' := s.toks) (fun b o hb q => eb b o hb q) f0 f1 f3 f4 f5⟩
  self := fun A i s Q E st h => let ⟨⟨_, he⟩, _⟩ := st; wpAny_pyIter_enum he h
/-- enumerate of a list or a tuple -/
def iEnumS (K : PySem.W.Frag) (ta : TA) : TI := fun σ H R => ta σ H fun vs H1 => ∃ a xs, vs = [.ref a] ∧ ((SqL K H1 a xs ∧ R (Ite K a) H1) ∨ (SqT K H1 a xs ∧ R (IteT K a) H1))
theorem pi_enumS {X : Cx} {e : Expr} {ta : TA} {p pos tpos : Pos} {elts : List Expr} {kk : Nat} (hg : Gl X "enumerate") (hm : X.mg "enumerate" = none) (ha : PA X [e] ta) (hs : starEach [e] X.env = [(false, eval e X.env)] := by rfl) :
    PI X (.Tuple elts kk tpos) (.Call (.Name "enumerate" p) [e] [] pos) (iEnumS X.K ta) := by
  refine ⟨fun pins s σ H R I h => ?_⟩
  refine Call_ (ld_blt I hg hm boot_enumerate (PyProof.Rows.callWith_type1 (thn (ha.run pos pins s σ H _ I h) fun us s1 ⟨vs, H1, I1, r1, q1⟩ => ?_) hs rfl))
  obtain ⟨a, xs, ex, q⟩ := q1
  subst ex
  cases r1 with
  | cons r rr =>
    cases rr
    cases r
    have fresh : ∀ b ∈ [s1.heap.objs.size + 1, s1.heap.objs.size], FpOk X pins H1 b := fun b hb => by
      have e' : b = s1.heap.objs.size + 1 ∨ b = s1.heap.objs.size := by simpa using hb
      have hle : s1.heap.objs.size ≤ b := by
        rcases e' with z | z
        · rw [z]; exact Nat.le_add_right _ _
        · rw [z]; exact Nat.le_refl _
      exact I1.fpOk hle (I1.hok.fresh hle)
    rcases q with ⟨hq, q⟩ | ⟨hq, q⟩
    · obtain ⟨its, rv, p', hz⟩ := I1.list hq
      refine call_enumerate_list p'.isList fun h' he hit hsz hk => wpAny_pyIter_enum he ?_
      have I2 : Inv X pins σ H1 { s1 with heap := h' } := I1.kept (t' := s1.toks) hk
      exact ⟨s1.heap.objs.size + 1, [s1.heap.objs.size + 1, s1.heap.objs.size], _, _, H1, rfl, I2, turn_enum a (s1.heap.objs.size + 1) s1.heap.objs.size, ⟨⟨.none, he⟩, hit, Nat.succ_ne_self _⟩, fresh, q⟩
    · obtain ⟨its, rv, p', hz⟩ := I1.tuple hq
      refine call_enumT p' fun h' he hit hk => wpAny_pyIter_enum he ?_
      have I2 : Inv X pins σ H1 { s1 with heap := h' } := I1.kept (t' := s1.toks) hk
      exact ⟨s1.heap.objs.size + 1, [s1.heap.objs.size + 1, s1.heap.objs.size], _, _, H1, rfl, I2, turn_enumT a (s1.heap.objs.size + 1) s1.heap.objs.size, ⟨⟨.none, he⟩, hit, Nat.succ_ne_self _⟩, fresh, q⟩
section
variable {K : PySem.W.Frag} {a : Addr} {xs : List V}
theorem walk_enumT : Walk (IteT K a) xs.length (fun H => SqT K H a xs) (YPair (fun i => some (.int (i : Nat))) (fun i => xs[i]?)) := by
  refine ⟨fun i _ hi q => ⟨xs, xs[i], q, by simp [hi]⟩, fun _ q => ⟨xs, q, Nat.le_refl _⟩, fun i H v H' _ q y => ?_⟩
  obtain ⟨T, x, h1, h2, h3, h4⟩ := y
  exact ⟨T, .int (i : Nat), x, h1, h2, h3, rfl, h4 xs q⟩
end
/-- enumerate over a zip of the tuples at a and b -/
def IteZ (K : PySem.W.Frag) (a b : Addr) : It :=
  ⟨fun i H => ∃ (xs ys : List V) (x y : V), SqT K H a xs ∧ SqT K H b ys ∧ xs[i]? = some x ∧ ys[i]? = some y,
    fun i H v H' => ∃ T1 T x y, v = .ref T ∧ H T1 = none ∧ H T = none ∧ T ≠ T1 ∧ H' = upd (upd H T1 (.tup [x, y])) T (.tup [.int (i : Nat), .ref T1]) ∧ (∀ xs, SqT K H a xs → xs[i]? = some x) ∧ ∀ ys, SqT K H b ys → ys[i]? = some y,
    fun i H => ∃ xs ys : List V, SqT K H a xs ∧ SqT K H b ys ∧ (xs.length ≤ i ∨ ys.length ≤ i)⟩
theorem zipF_slot {s : Shared} {z TI TO i1 i2 a b : Addr} {i : Nat} (st : ZipSt s.heap z TI TO i1 i2 a b i) : s.TypeIs (.ref z) "zip" := by
  obtain ⟨⟨v, f, hz, _⟩, _⟩ := st
  exact ⟨_, hz, rfl⟩
theorem turn_enumZ {P : Program} {w : World} {K : PySem.W.Frag} {elts : List Expr} {kk : Nat} {tpos : Pos} {a b z TI TO i1 i2 e : Addr} (D : ZipApart z TI TO i1 i2 a b) (he1 : e ≠ z) (he2 : e ≠ TI) (he3 : e ≠ TO) (he4 : e ≠ i1) (he5 : e ≠ i2) :
    Turn P w K (.Tuple elts kk tpos) (IteZ K a b) [e, z, TI, TO, i1, i2] e (fun i h => (∃ old, IsEnum h e z ((i : Nat) : Int) old) ∧ ZipSt h z TI TO i1 i2 a b i) where
  mem := by simp
  obj := fun i h st c hc => by
    obtain ⟨⟨old, he⟩, ⟨⟨v, f, hz, _⟩, hTI, ⟨x, y, hTO⟩, ⟨o1, e1, _, d1⟩, ⟨o2, e2, _, d2⟩⟩⟩ := st
    have e' : c = e ∨ c = z ∨ c = TI ∨ c = TO ∨ c = i1 ∨ c = i2 := by simpa using hc
    rcases e' with q | q | q | q | q | q
    · rw [q]; exact ⟨_, he, fun v q => nomatch q⟩
    · rw [q]; exact ⟨_, hz, fun v q => nomatch q⟩
    · rw [q]; exact ⟨_, hTI, fun v q => nomatch q⟩
    · rw [q]; exact ⟨_, hTO, fun v q => nomatch q⟩
    · rw [q]; exact ⟨o1, e1, fun v q => by rw [d1] at q; cases q⟩
    · rw [q]; exact ⟨o2, e2, fun v q => by rw [d2] at q; cases q⟩
  keep := fun i h h' st k => let ⟨⟨old, he⟩, hs⟩ := st; ⟨⟨old, k e (by simp) _ he⟩, hs.keeps fun c hc o q => k c (List.mem_cons_of_mem _ hc) o q⟩
  item := by
    intro X hP hw hK hc i pins s σ H E I hf st hg
    subst hP hw hK
    obtain ⟨⟨old, he⟩, hs⟩ := st
    obtain ⟨xs, ys, x, y, hqx, hqy, hx, hy⟩ := hg
    obtain ⟨its, rv, p, _⟩ := I.tuple hqx
    obtain ⟨its2, rv2, p2, _⟩ := I.tuple hqy
    obtain ⟨u, hu, ru⟩ := rv.get hx
    obtain ⟨u2, hu2, ru2⟩ := rv2.get hy
    have hel : e < s.heap.objs.size := Heap.lt_size he
    have live : ∀ c, c ∈ [e, z, TI, TO, i1, i2] → c < s.heap.objs.size := fun c hcm => by
      obtain ⟨⟨v, f, hz, _⟩, hTI, ⟨x, y, hTO⟩, ⟨o1, e1, _, d1⟩, ⟨o2, e2, _, d2⟩⟩ := hs
      have e' : c = e ∨ c = z ∨ c = TI ∨ c = TO ∨ c = i1 ∨ c = i2 := by simpa using hcm
      rcases e' with q | q | q | q | q | q
      · rw [q]; exact hel
      · rw [q]; exact Heap.lt_size hz
      · rw [q]; exact Heap.lt_size hTI
      · rw [q]; exact Heap.lt_size hTO
      · rw [q]; exact Heap.lt_size e1
      · rw [q]; exact Heap.lt_size e2
    refine enumG_item (R := fun v h₁ => v = .ref s.heap.objs.size ∧ ZipSt h₁ z TI TO i1 i2 a b (i + 1) ∧ IsPair h₁ s.heap.objs.size u u2 ∧ h₁.objs.size = s.heap.objs.size + 1 ∧ ∀ c o, c ≠ z → c ≠ TO → c ≠ i1 → c ≠ i2 → s.heap.get? c = some o → h₁.get? c = some o) he
      (fun A' E' Q' q => ?_) (fun v h₁ r => r.2.2.2.2 e _ he1 he3 he4 he5 he) fun v h₁ h' r ho hT hsz hk => ?_
    · unfold Builtin.SmallTypes.nextOf
      exact wpAny_bind (wpAny_callSpecial?_slot (name := Str.ofString "__next__") (zipF_slot hs) F.slot_zip_next
        (wpAny_call_entry F.slot_zip_next (zipF_slot hs) F.entry_zip_next (zipF_item D hs p p2 (x := u) (y := u2) (by simpa using hu) (by simpa using hu2) fun h' a1 a2 a3 a4 => wpAny_pure (q _ _ ⟨rfl, a1, a2, a3, a4⟩)) (F.args_zip_next_1 _)))
    · obtain ⟨rfl, hs₁, hP, hz₁, hk₁⟩ := r
      have I1 : Inv X pins σ (upd H s.heap.objs.size (.tup [x, y])) { s with heap := h₁ } :=
        I.turnedNew (t' := s.toks) (ch := [e, z, TI, TO, i1, i2]) (fun c o hb q => hk₁ c o (fun q' => hb (by simp [q'])) (fun q' => hb (by simp [q'])) (fun q' => hb (by simp [q'])) (fun q' => hb (by simp [q'])) q) hf (Nat.le_refl _)
          ⟨by show 2 ≤ sizeLine; decide, [u, u2], .cons ru (.cons ru2 .nil), ⟨_, hP, rfl, _, rfl⟩⟩
      have hf1 : ∀ c ∈ [e], FpOk X pins (upd H s.heap.objs.size (.tup [x, y])) c := fun c hc => by
        have hc' : c = e := List.mem_singleton.mp hc
        subst hc'
        have f := hf c (by simp)
        exact ⟨by rw [upd_ne (Nat.ne_of_lt hel)]; exact f.1, f.2⟩
      rw [hz₁] at ho hT hsz
      refine ⟨_, rfl, wpAny_letOwnedTupleGo_enum (s := { s with heap := h', toks := s.toks + 1 }) (by rw [hz₁]; exact ho) fun h'' he' sb => ?_⟩
      have ne2 : s.heap.objs.size + 1 ≠ e := Nat.ne_of_gt (Nat.lt_succ_of_lt hel)
      have hT2 : h''.get? (s.heap.objs.size + 1) = some { cls := .type "tuple", data := .seq #[.int i s.toks, .ref s.heap.objs.size] } := (sb.2 _ ne2).trans hT
      have up : ∀ c o, c ≠ e → h₁.get? c = some o → h''.get? c = some o := fun c o hc q => (sb.2 c hc).trans (hk c o hc q)
      have I2 : Inv X pins σ (upd (upd H s.heap.objs.size (.tup [x, y])) (s.heap.objs.size + 1) (.tup [.int (i : Nat), .ref s.heap.objs.size])) { s with heap := h'', toks := s.toks + 1 } :=
        I1.turnedNew (t' := s.toks + 1) (ch := [e]) (fun c o hb q => up c o (fun q' => hb (by simp [q'])) q) hf1 (Nat.le_of_eq hz₁)
          ⟨by show 2 ≤ sizeLine; decide, [.int i s.toks, .ref s.heap.objs.size], .cons ⟨_, rfl⟩ (.cons rfl .nil), ⟨_, hT2, rfl, _, rfl⟩⟩
      refine ⟨.ref (s.heap.objs.size + 1), _, I2, by rw [hz₁]; rfl, ⟨s.heap.objs.size, _, x, y, rfl, I.hok.fresh (Nat.le_refl _), I.hok.fresh (Nat.le_succ _), Nat.succ_ne_self _, rfl, fun l hl => by rw [I.tuple_inj hl hqx]; exact hx, fun l hl => by rw [I.tuple_inj hl hqy]; exact hy⟩, ⟨⟨.ref s.heap.objs.size, ?_⟩, ?_⟩, fun c hcm => ?_⟩
      · have e1 : ((i + 1 : Nat) : Int) = (i : Int) + 1 := by omega
        rw [e1]; exact he'
      · refine hs₁.keeps fun c hc o q => up c o (fun q' => ?_) q
        subst q'
        have e' : c = z ∨ c = TI ∨ c = TO ∨ c = i1 ∨ c = i2 := by simpa using hc
        rcases e' with q | q | q | q | q
        · exact he1 q
        · exact he2 q
        · exact he3 q
        · exact he4 q
        · exact he5 q
      · have hlt := live c hcm
        rw [upd_ne (Nat.ne_of_lt (Nat.lt_succ_of_lt hlt)), upd_ne (Nat.ne_of_lt hlt)]
        exact (hf c hcm).1
  done := by
    intro X hP hw hK hc i pins s σ H E I hf st hg
    subst hP hw hK
    obtain ⟨⟨old, he⟩, hs⟩ := st
    obtain ⟨xs, ys, hqx, hqy, hend⟩ := hg
    obtain ⟨its, rv, p, _⟩ := I.tuple hqx
    obtain ⟨its2, rv2, p2, _⟩ := I.tuple hqy
    have l1 := rv.length
    have l2 := rv2.length
    have hend' : its.toArray[i]? = none ∨ its2.toArray[i]? = none := by
      rcases hend with q | q
      · exact .inl (by simp; omega)
      · exact .inr (by simp; omega)
    refine enumG_end (R := fun h' => ∀ c o, c ≠ z → c ≠ TO → c ≠ i1 → c ≠ i2 → s.heap.get? c = some o → h'.get? c = some o) (I.ok.hd hc) he (fun A' Q' E' hh q => ?_)
      fun h' hk => ⟨rfl, I.turnedL (t' := s.toks) (ch := [e, z, TI, TO, i1, i2]) (fun c o hb q => hk c o (fun q' => hb (by simp [q'])) (fun q' => hb (by simp [q'])) (fun q' => hb (by simp [q'])) (fun q' => hb (by simp [q'])) q) hf⟩
    unfold Builtin.SmallTypes.nextOf
    exact wpAny_bind (wpAny_callSpecial?_slot (name := Str.ofString "__next__") (zipF_slot hs) F.slot_zip_next
      (wpAny_call_entry F.slot_zip_next (zipF_slot hs) F.entry_zip_next (zipF_end hh D hs p p2 hend' fun h' x h1 h2 => q h' x h1 h2) (F.args_zip_next_1 _)))
  self := fun A i s Q E st h => let ⟨⟨_, he⟩, _⟩ := st; wpAny_pyIter_enum he h
def iEnumZ (K : PySem.W.Frag) (ta : TA) : TI := fun σ H R => ta σ H fun vs H1 => ∃ a b xs ys, vs = [.ref a, .ref b] ∧ SqT K H1 a xs ∧ SqT K H1 b ys ∧ R (IteZ K a b) H1
/-- enumerate(zip(t, u)), two tuples -/
theorem pi_enumZ {X : Cx} {e e2 : Expr} {ta : TA} {p pos zp zpos tpos : Pos} {elts : List Expr} {kk : Nat} (hg : Gl X "enumerate") (hm : X.mg "enumerate" = none) (hgz : Gl X "zip") (hmz : X.mg "zip" = none) (ha : PA X [e, e2] ta)
    (hs : starEach [.Call (.Name "zip" zp) [e, e2] [] zpos] X.env = (false, eval (.Call (.Name "zip" zp) [e, e2] [] zpos) X.env) :: starEach [] X.env := by rfl)
    (hs2 : starEach [e, e2] X.env = (false, eval e X.env) :: starEach [e2] X.env := by rfl) (hpl : (backTo zpos (starEach [e2] X.env)).any (·.1) = false := by rfl) :
    PI X (.Tuple elts kk tpos) (.Call (.Name "enumerate" p) [.Call (.Name "zip" zp) [e, e2] [] zpos] [] pos) (iEnumZ X.K ta) := by
  refine ⟨fun pins s σ H R I h => ?_⟩
  refine Call_ (ld_blt I hg hm boot_enumerate (PyProof.Rows.callWith_type1 (PyProof.Rows.args_cons ?_ hs) hs rfl))
  refine Call_ (ld_blt I hgz hmz PyProof.Rows.boot_zip (PyProof.Rows.callWith_type1 (thn (ha.run zpos pins s σ H _ I h) fun us s1 ⟨vs, H1, I1, r1, q1⟩ => ?_) hs2 hpl))
  obtain ⟨a, b, xs, ys, ex, hqx, hqy, q⟩ := q1
  subst ex
  cases r1 with
  | cons r rr =>
    cases rr with
    | cons r' rr =>
      cases rr
      cases r
      cases r'
      obtain ⟨its, rv, p1, _⟩ := I1.tuple hqx
      obtain ⟨its2, rv2, p2, _⟩ := I1.tuple hqy
      obtain ⟨o1, ho1, _⟩ := id p1
      obtain ⟨o2, ho2, _⟩ := id p2
      refine RZ.call_zipT (show s1.heap.IsTuple a its.toArray from p1) (show s1.heap.IsTuple b its2.toArray from p2) fun h' hz hTI hTO h1 h2 hsz hk => ?_
      refine PyProof.Rows.args_nil ?_
      refine call_enumZ (s := { s1 with heap := h' }) hz fun h'' he hk2 => wpAny_pyIter_enum he ?_
      have I2 : Inv X pins σ H1 { s1 with heap := h'' } := I1.kept (t' := s1.toks) fun c o e => hk2 c o (hk c o e)
      have lt : ∀ k, k < 5 → s1.heap.objs.size + k < h'.objs.size := fun k hk => by rw [hsz]; exact Nat.add_lt_add_left hk _
      have ne : ∀ k, k < 5 → h'.objs.size ≠ s1.heap.objs.size + k := fun k hk => Nat.ne_of_gt (lt k hk)
      refine ⟨h'.objs.size, [h'.objs.size, s1.heap.objs.size + 4, s1.heap.objs.size + 2, s1.heap.objs.size + 3, s1.heap.objs.size, s1.heap.objs.size + 1], _, _, H1, rfl, I2,
        turn_enumZ (PySem.W.ktu_apart s1.heap.objs.size a b (Heap.lt_size ho1) (Heap.lt_size ho2)) (ne 4 (by decide)) (ne 2 (by decide)) (ne 3 (by decide)) (ne 0 (by decide)) (ne 1 (by decide)),
        ⟨⟨.none, he⟩, ⟨⟨.none, false, hk2 _ _ hz, .inl rfl⟩, hk2 _ _ hTI, ⟨_, _, hk2 _ _ hTO⟩, h1.at fun o e => hk2 _ o e, h2.at fun o e => hk2 _ o e⟩⟩, fun c hcm => ?_, q⟩
      have hle : s1.heap.objs.size ≤ c := by
        have e' : c = h'.objs.size ∨ c = s1.heap.objs.size + 4 ∨ c = s1.heap.objs.size + 2 ∨ c = s1.heap.objs.size + 3 ∨ c = s1.heap.objs.size ∨ c = s1.heap.objs.size + 1 := by simpa using hcm
        rcases e' with z | z | z | z | z | z
        · rw [z, hsz]; exact Nat.le_add_right _ _
        · rw [z]; exact Nat.le_add_right _ _
        · rw [z]; exact Nat.le_add_right _ _
        · rw [z]; exact Nat.le_add_right _ _
        · rw [z]; exact Nat.le_refl _
        · rw [z]; exact Nat.le_add_right _ _
      exact I1.fpOk hle (I1.hok.fresh hle)
section
variable {K : PySem.W.Frag} {a b : Addr} {xs ys : List V}
theorem walk_enumZ {n : Nat} (hn : n = min xs.length ys.length) : Walk (IteZ K a b) n (fun H => SqT K H a xs ∧ SqT K H b ys)
    (fun i H v H' => ∃ T1 T x y, v = .ref T ∧ H T1 = none ∧ H T = none ∧ T ≠ T1 ∧ H' = upd (upd H T1 (.tup [x, y])) T (.tup [.int (i : Nat), .ref T1]) ∧ xs[i]? = some x ∧ ys[i]? = some y) := by
  subst hn
  refine ⟨fun i _ hi q => ?_, fun _ q => ⟨xs, ys, q.1, q.2, by omega⟩, fun i H v H' _ q y => ?_⟩
  · have h1 : i < xs.length := by omega
    have h2 : i < ys.length := by omega
    exact ⟨xs, ys, xs[i], ys[i], q.1, q.2, by simp [h1], by simp [h2]⟩
  · obtain ⟨T1, T, x, z, h1, h2, h3, h4, h5, h6, h7⟩ := y
    exact ⟨T1, T, x, z, h1, h2, h3, h4, h5, h6 xs q.1, h7 ys q.2⟩
end
/-- a list or a tuple that is tracked -/
def SeqH (H : Hp) (a : Addr) (xs : List V) : Prop := H a = some (.lst xs) ∨ H a = some (.tup xs)
/-- enumerate of either: whatever walks it while it stands -/
def iEnumW (ta : TA) : TI := fun σ H R => ta σ H fun vs H1 => ∃ a xs, vs = [.ref a] ∧ SeqH H1 a xs ∧ ∀ J : It, Walk J xs.length (fun H' => H' a = H1 a) (YPair (fun i => some (.int (i : Nat))) (fun i => xs[i]?)) → R J H1
theorem pi_enumW {X : Cx} {e : Expr} {ta : TA} {p pos tpos : Pos} {elts : List Expr} {kk : Nat} (hg : Gl X "enumerate") (hm : X.mg "enumerate" = none) (ha : PA X [e] ta) (hs : starEach [e] X.env = [(false, eval e X.env)] := by rfl) :
    PI X (.Tuple elts kk tpos) (.Call (.Name "enumerate" p) [e] [] pos) (iEnumW ta) := by
  refine ⟨fun pins s σ H R I h => ?_⟩
  refine Call_ (ld_blt I hg hm boot_enumerate (PyProof.Rows.callWith_type1 (thn (ha.run pos pins s σ H _ I h) fun us s1 ⟨vs, H1, I1, r1, q1⟩ => ?_) hs rfl))
  obtain ⟨a, xs, ex, hq, q⟩ := q1
  subst ex
  cases r1 with
  | cons r rr =>
    cases rr
    cases r
    have fresh : ∀ b ∈ [s1.heap.objs.size + 1, s1.heap.objs.size], FpOk X pins H1 b := fun b hb => by
      have e' : b = s1.heap.objs.size + 1 ∨ b = s1.heap.objs.size := by simpa using hb
      have hle : s1.heap.objs.size ≤ b := by
        rcases e' with z | z
        · rw [z]; exact Nat.le_add_right _ _
        · rw [z]; exact Nat.le_refl _
      exact I1.fpOk hle (I1.hok.fresh hle)
    rcases hq with hq | hq
    · obtain ⟨its, rv, p', hz⟩ := I1.list (SqL.of hq)
      refine call_enumerate_list p'.isList fun h' he hit hsz hk => wpAny_pyIter_enum he ?_
      have I2 : Inv X pins σ H1 { s1 with heap := h' } := I1.kept (t' := s1.toks) hk
      exact ⟨s1.heap.objs.size + 1, [s1.heap.objs.size + 1, s1.heap.objs.size], _, _, H1, rfl, I2, turn_enum a (s1.heap.objs.size + 1) s1.heap.objs.size, ⟨⟨.none, he⟩, hit, Nat.succ_ne_self _⟩, fresh,
        q _ (walk_enum.mono (fun H' z => SqL.of (z.trans hq)) fun _ _ _ _ _ _ y => y)⟩
    · obtain ⟨its, rv, p', hz⟩ := I1.tuple (SqT.of hq)
      refine call_enumT p' fun h' he hit hk => wpAny_pyIter_enum he ?_
      have I2 : Inv X pins σ H1 { s1 with heap := h' } := I1.kept (t' := s1.toks) hk
      exact ⟨s1.heap.objs.size + 1, [s1.heap.objs.size + 1, s1.heap.objs.size], _, _, H1, rfl, I2, turn_enumT a (s1.heap.objs.size + 1) s1.heap.objs.size, ⟨⟨.none, he⟩, hit, Nat.succ_ne_self _⟩, fresh,
        q _ (walk_enumT.mono (fun H' z => SqT.of (z.trans hq)) fun _ _ _ _ _ _ y => y)⟩
end K7
end

section
-- K7Rules
set_option Elab.async false
set_option linter.all false
set_option maxRecDepth 100000
set_option maxHeartbeats 2000000
/-! repr of data; promises of defs called where nothing is guarded; the end of the law. -/
namespace K7
open PySem PySem.Spec PyProof.Rows L2
/-! ### repr -/
def rRepr (K : PySem.W.Frag) : List V → Hp → VK → Prop := fun xs H Q => ∃ (x : V) (d : PyData), xs = [x] ∧ Dp K H x d ∧ d.showable = true ∧ d.hasDict = false ∧ d.depth ≤ 8 ∧ d.shown.length ≤ sizeLine ∧ Q (.str d.shown) H
theorem call_repr {X : Cx} {k : Nat} (hg : X.A.guards = some []) (hu : X.A.units + 64 < cLine) : CallR X (.builtin "repr") (rRepr X.K) := by
  intro pins s σ H xs us Q I r h
  obtain ⟨x, d, rfl, hd, hs, hn, hdp, hz, q⟩ := h
  obtain ⟨u, rfl, rx⟩ := vals1 r
  obtain ⟨as, hr⟩ := Dp.reads I d x u hd rx
  have road : ∀ a, u = .ref a → wpAny (model X.prog X.w) X.A (call (.builtin "repr") [u]) (EP X pins σ Q) X.xe s := fun a e => by
    subst e
    exact repr_of_reads' hr hs (fun z => by rw [hn] at z; cases z) hg (by omega) (fun _ _ e => e) (fun h' t tk k => ⟨.str d.shown, H, I.kept k, ⟨_, rfl⟩, q⟩) hz
  cases hd with
  | non =>
    cases rx
    exact PySem.P.repr_of_none ⟨.str _, H, I.tok _, ⟨_, rfl⟩, q⟩
  | bl b =>
    cases rx
    exact PySem.P.repr_of_bool ⟨.str _, H, I.tok _, ⟨_, rfl⟩, q⟩
  | int i =>
    obtain ⟨t, rfl⟩ := rx
    exact PySem.P.repr_of_int (of_decide_eq_true (by simpa [PyData.showable] using hs)) ⟨.str _, H, I.tok _, ⟨_, rfl⟩, q⟩
  | str z =>
    obtain ⟨t, rfl⟩ := rx
    exact PySem.P.repr_of_str ⟨.str _, H, I.tok _, ⟨_, rfl⟩, q⟩ hz
  | lst _ _ => cases rx; exact road _ rfl
  | tup _ _ => cases rx; exact road _ rfl
/-! ### a promise kept where nothing is guarded -/
structure FnG (P : Program) (w : World) (K : PySem.W.Frag) (mg : Str → Option Value) (base : Heap) (CX : CXT) (k : Nat) (f : Addr) (fd : FuncData) (ps : List Str) (sp : Sp) : Prop where
  len : ∀ vs H Q E, sp vs H Q E → vs.length = ps.length
  run : ∀ (A : Around) (outer : List Env) (s : Shared) (H : Hp) (args : Args) (us : List Value) (vs : List V) (Q : VK) (E : XK), A.guards = some [] → Room k A → Env0 P w K mg base A outer s H → BindsTo s fd args (ps.zip us) → Vals vs us → sp vs H Q E →
    codeAny (model P w) A (.call (.ref f) args) (CR CX outer P w H s Q E) s
section
variable {P : Program} {w : World} {K : PySem.W.Frag} {mg : Str → Option Value} {base : Heap} {x qual : Str} {params : Arguments} {body : List Stmt} {scope : Scope} {dvs : List V} {kws : List (Str × V)} {f : Addr} {fd : FuncData}
theorem okG {CX : CXT} {N ps : List Str} {k : Nat} {sp : Sp} (F : FunD K x qual params body scope dvs kws f fd) (S : FnScope N ps scope) (len : ∀ vs H Q E, sp vs H Q E → vs.length = ps.length)
    (hbody : ∀ (cdv : Value) (A : Around) (outer : List Env) (s : Shared) (H : Hp) (vs : List V) (Q : VK) (E : XK), A.guards = some [] → Room k (A.deeper (envOfC qual scope s.heap.objs.size f cdv)) → fd.code = cdv → sp vs H Q E →
      ∃ t, PSs (cxOf CX P w K mg base N qual scope f cdv A outer s H E) body t ∧ t { nx := fun _ H' => Q .non H', rt := Q } (start N vs) H) : FnG P w K mg base CX (k + 1) f fd ps sp := by
  obtain ⟨oc, od, dV, kV, doc, pm, an, cdv, ct, osl, rfl, lk, hcd, _, _⟩ := F.ex
  exact ⟨len, fun A outer s H args us vs Q E hgd hr e0 hb r hsp => LamX.run_ofS lk hcd S hr e0 hb r (len _ _ _ _ hsp) fun hr' => hbody cdv A outer s H vs Q E hgd hr' rfl hsp⟩
end
theorem FnG.of {P : Program} {w : World} {K : PySem.W.Frag} {mg : Str → Option Value} {base : Heap} {CX : CXT} {k : Nat} {f : Addr} {fd : FuncData} {ps : List Str} {sp : Sp} (F : FnOk P w K mg base CX k f fd ps sp) : FnG P w K mg base CX k f fd ps sp :=
  ⟨F.len, fun A outer s H args us vs Q E _ hr => F.run A outer s H args us vs Q E hr⟩
section
variable {X : Cx} {CX : CXT} {k : Nat} {f : Addr} {fd : FuncData} {ps : List Str} {sp : Sp} {dvs : List V} {ds : List Value} {E : XK} {x : Str} {p pos : Pos} {e : Expr} {es : List Expr} {t : TA}
theorem run_fnG {pins : List (Addr × Obj)} {σ : L2.St} {H : Hp} {s : Shared} {Q : VK} {us : List Value} {vs : List V} (F : FnG X.prog X.w X.K X.mg X.base CX k f fd ps sp) (hgd : X.A.guards = some []) (hr : Room k X.A) (hb : Binds X.K fd ps ds) (hd : Vals dvs ds) (hx : Passes CX X E)
    (I : Inv X pins σ H s) (r : Vals vs us) (h : sp (vs ++ dvs) H Q E) : wpAny (model X.prog X.w) X.A (call (.ref f) us) (EP X pins σ Q) X.xe s := by
  have r2 : Vals (vs ++ dvs) (us ++ ds) := r.append hd
  have hl : (us ++ ds).length = ps.length := by rw [← r2.length]; exact F.len _ _ _ _ h
  refine wpAny_call (codeAny_mono (F.run X.A X.stack s H ⟨us, []⟩ (us ++ ds) (vs ++ dvs) Q E hgd hr I.env0 (hb s us I.kIn hl) r2 h) fun r s' hq => ?_)
  cases r with
  | error e => exact hx pins σ H s e s' I hq
  | ok fl =>
    cases fl with
    | ret u => exact I.after hq
    | next => exact False.elim hq
    | brk => exact False.elim hq
    | cont => exact False.elim hq
theorem pe_callG (F : FnG X.prog X.w X.K X.mg X.base CX k f fd ps sp) (hgd : X.A.guards = some []) (hr : Room k X.A) (hg : Gl X x) (hm : X.mg x = some (.ref f)) (hk : PySem.W.keepIn X.K (.ref f) = true) (hb : Binds X.K fd ps ds) (hd : Vals dvs ds) (hx : Passes CX X E)
    (ha : PA X (e :: es) t) (hdb : (x == ("__debug__" : Str)) = false := by decide) (he : starEach (e :: es) X.env = (false, eval e X.env) :: starEach es X.env := by rfl) (hpl : (backTo pos (starEach es X.env)).any (·.1) = false := by rfl) :
    PE X (.Call (.Name x p) (e :: es) [] pos) (tCall sp dvs E t) := by
  refine ⟨fun pins s σ H Q I h => ?_⟩
  refine wpAny_Call_Name_kw (ld_glob I hg hm ?_ hdb)
  refine PySem.W.callWith_K (h₀ := X.base) I.ok.mod.kin hk (thn (ha.run pos pins s σ H _ I h) fun us s1 ⟨vs, H1, I1, r, q⟩ => ⟨I1.kIn, ?_⟩) he hpl
  exact run_fnG F hgd hr hb hd hx I1 r q
end
/-! ### the end -/
open LamX
/-- the law called: cs, the code objects and their tables; nothing is guarded -/
theorem law_callG {P : Program} {w : World} {K : PySem.W.Frag} {mg mb : Str → Option Value} {CX : CXT} {k : Nat} {fa a : Addr} {cs : List (Addr × Addr)} {fd : FuncData} {x : Str} {sp : Sp} {s₁ : Shared} {vs : List Value} {ns : List Int}
    (KX : K.In s₁.heap) (hns : s₁.heap.Ns mainGlobals mg) (hb : s₁.heap.Ns builtinsNs mb) (hbb : ∀ x : Str, x ≠ "__name__" → mb x = bootBuiltins x) (hlim : s₁.heap.NoLimit) (hg : s₁.gens = #[])
    (hT : ∀ p ∈ cs, s₁.heap.get? p.2 = some { cls := .none, data := .fields #[] }) (nT : ∀ p ∈ cs, K.lookup p.2 = none) (C : ∀ p ∈ cs, PySem.W.CodeHd s₁.heap p.1 p.2)
    (hbm : ∃ (bm : Addr) (ob : Obj), mg "__builtins__" = some (.ref bm) ∧ bm ≠ builtinsNs ∧ s₁.heap.get? bm = some ob ∧ ob.cls = .type "module" ∧ ob.dict = some builtinsNs ∧ ob.data = .plain)
    (ha : s₁.heap.get? a = some { cls := .type "list", data := .seq vs.toArray }) (hi : IntsAre vs ns) (hl : ns.length ≤ sizeLine) (hr : Room k callerA)
    (F : ∀ base : Heap, K.In base → base.Ns mainGlobals mg → (∀ p ∈ cs, TabB base mg p.1 p.2) → FnG P w K mg base CX k fa fd [x] sp) (hbind : ∀ (s : Shared) (u : Value), BindsTo s fd ⟨[u], []⟩ [(x, u)])
    (hsp : ∀ H : Hp, (∀ p ∈ cs, H p.2 = some (.tbl #[])) → SqL K H a (ns.map V.int) → sp [.ref a] H (fun v _ => v = .bl true) fun _ _ _ => False)
    (hCX : ∀ H e s', CX [] H s₁ (fun _ _ _ => False) e s' → False) :
    codeAny (model P w) callerA (.call (.ref fa) ⟨[.ref a], []⟩) (fun r s' => r = .ok (.ret (.bool true)) ∧ OldK s₁.heap s'.heap ∧ s'.os = s₁.os ∧ AllBare s'.gens) s₁ := by
  have rv := vals_ints hi
  have lenV := hi.length
  have isT : ∀ b : Addr, b ∈ cs.map (·.2) → s₁.heap.get? b = some { cls := .none, data := .fields #[] } := fun b hb => by
    obtain ⟨p, hp, e⟩ := List.mem_map.mp hb
    rw [← e]
    exact hT p hp
  have aT : a ∉ cs.map (·.2) := fun z => by
    have q := isT a z
    rw [ha] at q
    have z' : Data.seq vs.toArray _ = Data.fields #[] := congrArg Obj.data (Option.some.inj q)
    cases z'
  have memT : ∀ p ∈ cs, p.2 ∈ cs.map (·.2) := fun p hp => List.mem_map.mpr ⟨p, hp, rfl⟩
  -- from an abstract heap in which nothing but the script and the tables may be tracked
  have core : ∀ H : Hp, (∀ p ∈ cs, H p.2 = some (.tbl #[])) → (∀ b, H b = none ∨ b ∈ cs.map (·.2) ∨ ∃ o xs, H b = some (.frz o (.lst xs))) → SqL K H a (ns.map V.int) → HOk P w H s₁.heap → (∀ b, H b ≠ none → b = a ∨ b ∈ cs.map (·.2)) → (H a ≠ none → K.lookup a = none) →
      codeAny (model P w) callerA (.call (.ref fa) ⟨[.ref a], []⟩) (fun r s' => r = .ok (.ret (.bool true)) ∧ OldK s₁.heap s'.heap ∧ s'.os = s₁.os ∧ AllBare s'.gens) s₁ := by
    intro H hH hO hS hok hA hK
    have base_of : ∀ {b : Addr} {o : Obj}, s₁.heap.get? b = some o → H b = none → (hidT s₁.heap H).get? b = some o := fun e n => hidT_get e n
    have noD : ∀ {b : Addr} {o : Obj}, s₁.heap.get? b = some o → (∀ vs n, o.data ≠ .seq vs n) → o.data ≠ .fields #[] → H b = none := fun {b o} e h1 h2 => by
      cases q : H b with
      | none => rfl
      | some u =>
        rcases hA b (by rw [q]; simp) with e' | e'
        · rw [e', ha] at e
          cases e
          exact (h1 _ _ rfl).elim
        · rw [isT b e'] at e
          cases e
          exact (h2 rfl).elim
    have noA : ∀ {b : Addr} {o : Obj} {es : Array DictEntry} {ep : Nat}, s₁.heap.get? b = some o → o.data = .dict es ep → H b = none := fun {b o es ep} e d => by
      refine noD e (fun vs n z => ?_) fun z => ?_
      · rw [d] at z
        cases z
      · rw [d] at z
        cases z
    have nsK : ∀ {b : Addr} {m : Str → Option Value}, s₁.heap.Ns b m → (hidT s₁.heap H).Ns b m := fun {b m} ⟨o, es, ep, e, d, r⟩ => ⟨o, es, ep, base_of e (noA e d), d, r⟩
    have hKb : K.In (hidT s₁.heap H) := fun b o e => base_of (KX b o e) (by
      cases q : H b with
      | none => rfl
      | some u =>
        rcases hA b (by rw [q]; simp) with e' | e'
        · rw [e'] at e q
          rw [hK (by rw [q]; simp)] at e
          cases e
        · obtain ⟨p, hp, ep⟩ := List.mem_map.mp e'
          rw [← ep, nT p hp] at e
          cases e)
    have hM : L2.Mod K mg (hidT s₁.heap H) := ⟨hKb, nsK hns, ⟨mb, nsK hb, hbb⟩, let ⟨mc, h1, h2⟩ := hlim; ⟨mc, nsK h1, h2⟩⟩
    have TB : ∀ p ∈ cs, TabB (hidT s₁.heap H) mg p.1 p.2 := fun p hp => by
      have hTp := hT p hp
      refine ⟨?_, ?_, fun z => ?_⟩
      · obtain ⟨o, us, file, tf, flags, tg, inF, text, tt, e1, r1, r2, r3, r4, r5, r6, r7, r8, hne⟩ := C p hp
        refine ⟨o, us, file, tf, flags, tg, inF, text, tt, base_of e1 (noD e1 (fun vs n z => ?_) fun z => ?_), r1, r2, r3, r4, r5, r6, r7, r8, hne⟩
        · rw [r2] at z
          cases z
        · rw [r2] at z
          cases z
          simp at r3
      · obtain ⟨bm, ob, b1, b2, b3, b4, b5, b6⟩ := hbm
        have nG : bm ≠ mainGlobals := fun q => by
          obtain ⟨o, es, ep, e, hd, _⟩ := hns
          rw [q, e] at b3
          cases b3
          rw [hd] at b6
          cases b6
        have nP : bm ≠ p.2 := fun q => by
          rw [q, hTp] at b3
          cases b3
          cases b6
        refine ⟨bm, ob, b1, b2, nG, nP, base_of b3 (noD b3 (fun vs n z => ?_) fun z => ?_), b4, b5, b6⟩
        · rw [b6] at z
          cases z
        · rw [b6] at z
          cases z
      · obtain ⟨o, es, ep, e, hd, _⟩ := hns
        rw [z, hTp] at e
        cases e
        cases hd
    have e0 : Env0 P w K mg (hidT s₁.heap H) callerA [] s₁ H := ⟨rfl, hM, fun b o e => of_hidT e, Nat.le_of_eq (hidT_size _ _), trivial, fun b hb => absurd (show b ∈ ([] : List Addr) from hb) (by simp), hok, .of_eq hg⟩
    refine codeAny_mono ((F _ hKb (nsK hns) TB).run callerA [] s₁ H ⟨[.ref a], []⟩ [.ref a] [.ref a] _ _ rfl hr e0 (hbind s₁ (.ref a)) (.cons rfl .nil) (hsp H hH hS)) fun r s' h => ?_
    cases r with
    | error e => exact (hCX H e s' h).elim
    | ok fl =>
      cases fl with
      | next => exact False.elim h
      | brk => exact False.elim h
      | cont => exact False.elim h
      | ret u =>
        obtain ⟨v, H', os, bare, un, hok', r', q⟩ := h
        have q' : v = .bl true := q
        subst q'
        obtain rfl : u = Value.bool true := r'
        have key : ∀ b o, b ∉ cs.map (·.2) → s₁.heap.get? b = some o → s'.heap.get? b = some o := fun b o nb e => by
          cases q : H b with
          | none => exact un.keep b o e q (by intro z; exact absurd (show b ∈ ([] : List Addr) from z) (by simp)) (by simp)
          | some u =>
            rcases hO b with z | z | ⟨ob, xs, z⟩
            · rw [q] at z; cases z
            · exact absurd z nb
            · have z2 := un.frzs b ob _ z
              obtain ⟨e1, _⟩ := hok b _ z
              obtain ⟨e2, _⟩ := hok' b _ z2
              rw [e] at e1; cases e1
              exact e2
        have grown : ∀ p ∈ cs, ∃ more : Array Value, s'.heap.get? p.2 = some { cls := .none, data := .fields more } := fun p hp => by
          obtain ⟨more, z⟩ := un.tbls p.2 #[] (hH p hp)
          exact ⟨_, hok' p.2 _ z⟩
        refine ⟨rfl, ⟨fun b o e => ?_, fun b o e => ?_⟩, os, bare⟩
        · by_cases hb : b ∈ cs.map (·.2)
          · obtain ⟨p, hp, ep⟩ := List.mem_map.mp hb
            obtain ⟨more, hm⟩ := grown p hp
            rw [← ep] at e ⊢
            rw [hT p hp] at e
            cases e
            exact .inr (.inl ⟨((C p hp).tab (hT p hp)).isCodeTable, rfl, #[], more, rfl, by rw [Array.empty_append]; exact hm⟩)
          · exact .inl (key b o hb e)
        · by_cases hb : b ∈ cs.map (·.2)
          · obtain ⟨p, hp, ep⟩ := List.mem_map.mp hb
            obtain ⟨more, hm⟩ := grown p hp
            rw [← ep]
            exact ⟨_, hm⟩
          · exact ⟨o, key b o hb e⟩
  cases hk : K.lookup a with
  | some o =>
    have e := KX a o hk
    rw [ha] at e
    cases e
    refine core (fun b => if b ∈ cs.map (·.2) then some (.tbl #[]) else none) (fun p hp => if_pos (memT p hp)) (fun b => ?_) (.inr ⟨_, vs.toArray, _, hk, rfl, rfl, rfl, by rw [List.size_toArray, lenV]; exact hl, by simpa using rv⟩) (fun b u z => ?_) (fun b z => ?_) fun z => absurd (show (if a ∈ cs.map (·.2) then some (HO.tbl #[]) else none) = none from if_neg aT) z
    · by_cases hb : b ∈ cs.map (·.2)
      · exact .inr (.inl hb)
      · exact .inl (if_neg hb)
    · by_cases hb : b ∈ cs.map (·.2)
      · have z' := (if_pos hb).symm.trans z
        cases z'
        exact isT b hb
      · have z' := (if_neg hb).symm.trans z
        cases z'
    · by_cases hb : b ∈ cs.map (·.2)
      · exact .inr hb
      · exact absurd (if_neg hb) z
  | none =>
    refine core (fun b => if b = a then some (.frz { cls := .type "list", data := .seq vs.toArray } (.lst (ns.map V.int))) else if b ∈ cs.map (·.2) then some (.tbl #[]) else none) (fun p hp => (if_neg (show ¬ p.2 = a from fun z => aT (by rw [← z]; exact memT p hp))).trans (if_pos (memT p hp))) (fun b => ?_)
      (.inl (.inr ⟨{ cls := .type "list", data := .seq vs.toArray }, if_pos rfl⟩)) (fun b u z => ?_) (fun b z => ?_) fun _ => hk
    · by_cases hb : b = a
      · exact .inr (.inr ⟨_, _, if_pos hb⟩)
      · by_cases hb2 : b ∈ cs.map (·.2)
        · exact .inr (.inl hb2)
        · exact .inl ((if_neg hb).trans (if_neg hb2))
    · by_cases hb : b = a
      · have z' := (if_pos hb).symm.trans z
        cases z'
        rw [hb]
        exact ⟨ha, by rw [List.length_map]; exact hl, vs, _, rv, ha⟩
      · have z1 := (if_neg hb).symm.trans z
        by_cases hb2 : b ∈ cs.map (·.2)
        · have z' := (if_pos hb2).symm.trans z1
          cases z'
          exact isT b hb2
        · have z' := (if_neg hb2).symm.trans z1
          cases z'
    · by_cases hb : b = a
      · exact .inl hb
      · by_cases hb2 : b ∈ cs.map (·.2)
        · exact .inr hb2
        · exact absurd ((if_neg hb).trans (if_neg hb2)) z

def LawAtG (l : PySem.W.OpenLaw) (w : World) (K : PySem.W.Frag) (CX : CXT) (k n : Nat) (x : Str) (mg : Str → Option Value) (fa : Addr) (h : Heap) : Prop :=
  ∃ (fd : FuncData) (cs : List (Addr × Addr)) (sp : Sp), (∀ p ∈ cs, h.get? p.2 = some { cls := .none, data := .fields #[] }) ∧ (∀ p ∈ cs, K.lookup p.2 = none) ∧ (∀ p ∈ cs, PySem.W.CodeHd h p.1 p.2) ∧ (∀ (s : Shared) (u : Value), BindsTo s fd ⟨[u], []⟩ [(x, u)]) ∧
    (∀ (H : Hp) (a : Addr) (ns : List Int), ns.length ≤ n → (∀ z ∈ ns, Builtin.Int.intBits z ≤ 1048576) → (∀ p ∈ cs, H p.2 = some (.tbl #[])) → SqL K H a (ns.map V.int) → sp [.ref a] H (fun v _ => v = .bl true) fun _ _ _ => False) ∧
    ∀ base : Heap, K.In base → base.Ns mainGlobals mg → (∀ p ∈ cs, TabB base mg p.1 p.2) → FnG l.prog w K mg base CX k fa fd [x] sp
theorem walk_ofG {l : PySem.W.OpenLaw} {n k : Nat} {q : Program} {loose : List Str} {XP : (Str → Option Value) → Heap → Prop} {YP : World → Heap → Prop} {d : DefRec} {CX : World → CXT} {x : Str}
    (hn : l.most = some n) (hn2 : n ≤ sizeLine) (hdf : d.params.defaults = []) (hr : Room k callerA)
    (F : ∀ (w : World) (mg : Str → Option Value) (fa : Addr) (h : Heap), YP w h → h.Ns mainGlobals mg → mg d.name = some (.ref fa) → ∃ K : PySem.W.Frag, K.In h ∧ LawAtG l w K (CX w) k n x mg fa h)
    (hCX : ∀ (w : World) (H : Hp) (s : Shared) (e : Value) (s' : Shared), CX w [] H s (fun _ _ _ => False) e s' → False) :
    PySem.W.WalkO q loose XP YP l.row.toRowW d [] (fun f vs => PySem.call f vs) := by
  refine Att.attach_callB hn hdf fun w s₀ s₁ mg mb fa o pm cd doc a vs ns G Y ho hd hcd hmg hobj hints hlen hbits hg => ?_
  obtain ⟨K, KX, fd, cs, sp, hT, nT, C, hb, hsp, hF⟩ := F w mg fa _ Y G.T.g hmg
  exact law_callG KX G.T.g G.T.b G.T.builtins G.T.nolimit hg hT nT C G.T.bmain hobj hints (Nat.le_trans hlen hn2) hr hF hb (fun H hH hS => hsp H a ns hlen hbits hH hS) fun H e s' => hCX w H s₁ e s'
end K7
end

section
-- K7Base
set_option Elab.async false
set_option linter.all false
set_option maxRecDepth 100000
set_option maxHeartbeats 2000000
/-! What all walks of the defs stand on: facts of the top, promises kept by name, data in the heap. -/
namespace K7
open PySem PySem.Spec PyProof.Rows L2
/-! ### facts of the top -/
structure Txt (K : PySem.W.Frag) (mg : Str → Option Value) (C : Addr) : Prop where
  isinstance : mg "isinstance" = none
  int : mg "int" = none
  bool : mg "bool" = none
  list : mg "list" = none
  tuple : mg "tuple" = none
  len : mg "len" = none
  all : mg "all" = none
  range : mg "range" = none
  enumerate : mg "enumerate" = none
  zip : mg "zip" = none
  repr : mg "repr" = none
  abs : mg "abs" = none
  cGONE : ∃ t, mg "GONE" = some (.int (-1) t)
  cMOST_COMMANDS : ∃ t, mg "MOST_COMMANDS" = some (.int 12 t)
  cMOST_QUEUE : ∃ t, mg "MOST_QUEUE" = some (.int 10000 t)
  cl : Cls K C
  nC : NoAttr K C "commands"
  nR : NoAttr K C "rows"
  mgM : mg "Merger" = some (.ref C)
/-- an own error's class -/
def ErrAt (K : PySem.W.Frag) (mg : Str → Option Value) (cn : Str) (C : Addr) : Prop := ∃ fI, PySem.K7X.ErrTxt Pg K mg cn C fI
/-! ### promises by name -/
section
variable (w : World) (K : PySem.W.Frag) (mg : Str → Option Value) (base : Heap)
structure Keeps (CX : CXT) (x : Str) (k : Nat) (ps : List Str) (sp : Sp) : Prop where
  ex : ∃ (f : Addr) (fd : FuncData), mg x = some (.ref f) ∧ PySem.W.keepIn K (.ref f) = true ∧ Binds K fd ps [] ∧ FnOk Pg w K mg base CX k f fd ps sp
/-- the same, its arguments also by keywords, from the last to the first -/
structure KeepsR (CX : CXT) (x : Str) (k : Nat) (ps : List Str) (sp : Sp) : Prop where
  ex : ∃ (f : Addr) (fd : FuncData), mg x = some (.ref f) ∧ PySem.W.keepIn K (.ref f) = true ∧ Binds K fd ps [] ∧ (∀ (s : Shared) (ws : List Value), ws.length = ps.length → BindsTo s fd ⟨[], ps.reverse.zip ws⟩ (ps.zip ws.reverse)) ∧ FnOk Pg w K mg base CX k f fd ps sp
end
/-- a def of the top -/
def DefAt (K : PySem.W.Frag) (mg : Str → Option Value) (x : Str) (st : Stmt) : Prop := ∃ (f : Addr) (fd : FuncData), mg x = some (.ref f) ∧ FnP K x st f fd
section
variable {w : World} {K : PySem.W.Frag} {mg : Str → Option Value} {base : Heap}
theorem KeepsR.keeps {CX : CXT} {x : Str} {k : Nat} {ps : List Str} {sp : Sp} (G : KeepsR w K mg base CX x k ps sp) : Keeps w K mg base CX x k ps sp :=
  let ⟨f, fd, h1, h2, h3, _, h5⟩ := G.ex
  ⟨f, fd, h1, h2, h3, h5⟩
/-- a def that lets nothing out -/
theorem keeps0 {x : Str} {st : Stmt} {N ps : List Str} {k : Nat} {sp : Sp} (D : DefAt K mg x st) (S : FnScope N ps (defScope st)) (len : ∀ vs H Q E, sp vs H Q E → vs.length = ps.length)
    (hb : ∀ (kV doc pm : Value) (an : Option Addr) (cdv ct : Value) (us : List Value), us.length = ps.length → bindArgs (PySem.W.fnOf x x (defArgs st) (defBody st) (defScope st) .none kV doc pm an cdv ct) ⟨us, []⟩ = pure (ps.zip us))
    (hbody : ∀ (f : Addr) (cdv : Value) (A : Around) (outer : List Env) (s : Shared) (H : Hp) (vs : List V) (Q : VK) (E : XK), Room k (A.deeper (envOfC x (defScope st) s.heap.objs.size f cdv)) → sp vs H Q E →
      ∃ t, PSs (cxOf CX0 Pg w K mg base N x (defScope st) f cdv A outer s H E).nox (defBody st) t ∧ t { nx := fun _ H' => Q .non H', rt := Q } (start N vs) H) : Keeps w K mg base CX0 x (k + 1) ps sp := by
  obtain ⟨f, fd, hm, F⟩ := D
  refine ⟨f, fd, hm, F.kp, F.bindsN hb, F.ok S len fun cdv A outer s H vs Q E hr h => ?_⟩
  obtain ⟨t, h1, h2⟩ := hbody f cdv A outer s H vs Q E hr h
  exact ⟨t, h1.nox, h2⟩
/-- a def that may raise -/
theorem keepsX {x : Str} {st : Stmt} {N ps : List Str} {k : Nat} {sp : Sp} (D : DefAt K mg x st) (S : FnScope N ps (defScope st)) (len : ∀ vs H Q E, sp vs H Q E → vs.length = ps.length)
    (hb : ∀ (kV doc pm : Value) (an : Option Addr) (cdv ct : Value) (us : List Value), us.length = ps.length → bindArgs (PySem.W.fnOf x x (defArgs st) (defBody st) (defScope st) .none kV doc pm an cdv ct) ⟨us, []⟩ = pure (ps.zip us))
    (hr2 : ∀ (kV doc pm : Value) (an : Option Addr) (cdv ct : Value) (ws : List Value), ws.length = ps.length → bindArgs (PySem.W.fnOf x x (defArgs st) (defBody st) (defScope st) .none kV doc pm an cdv ct) ⟨[], ps.reverse.zip ws⟩ = pure (ps.zip ws.reverse))
    (hbody : ∀ (f : Addr) (cdv : Value) (A : Around) (outer : List Env) (s : Shared) (H : Hp) (vs : List V) (Q : VK) (E : XK), Room k (A.deeper (envOfC x (defScope st) s.heap.objs.size f cdv)) → sp vs H Q E →
      ∃ t, PSs (cxOf (L2.CX Pg w) Pg w K mg base N x (defScope st) f cdv A outer s H E) (defBody st) t ∧ t { nx := fun _ H' => Q .non H', rt := Q } (start N vs) H) : KeepsR w K mg base (L2.CX Pg w) x (k + 1) ps sp := by
  obtain ⟨f, fd, hm, F⟩ := D
  refine ⟨f, fd, hm, F.kp, F.bindsN hb, ?_, F.ok S len fun cdv A outer s H vs Q E hr h => hbody f cdv A outer s H vs Q E hr h⟩
  obtain ⟨oc, od, dV, kV, doc, pm, an, cdv, ct, osl, rfl, lk, hcd, hD, hK⟩ := F.ex
  intro s ws hl
  rcases hD with ⟨_, rfl⟩ | ⟨e, _⟩
  · exact .of_eq (hr2 kV doc pm an cdv ct ws hl)
  · exact absurd rfl e
end
section
variable {X : Cx} {CX : CXT} {k : Nat} {ps : List Str} {sp : Sp} {E : XK} {x : Str} {p pos : Pos} {e : Expr} {es : List Expr} {t tk : TA} {kws : List Keyword}
theorem pe_k (G : Keeps X.w X.K X.mg X.base CX x k ps sp) (hP : X.prog = Pg) (hr : Room k X.A) (hg : Gl X x) (hx : Passes CX X E) (ha : PA X (e :: es) t) (hdb : (x == ("__debug__" : Str)) = false := by decide)
    (he : starEach (e :: es) X.env = (false, eval e X.env) :: starEach es X.env := by rfl) (hpl : (backTo pos (starEach es X.env)).any (·.1) = false := by rfl) : PE X (.Call (.Name x p) (e :: es) [] pos) (tCall sp [] E t) := by
  obtain ⟨f, fd, hm, hk, hb, F⟩ := G.ex
  rw [← hP] at F
  exact pe_call F hr hg hm hk hb .nil hx ha hdb he hpl
/-- f(z=.., y=.., x=..): all parameters, from the last -/
theorem pe_kR (G : KeepsR X.w X.K X.mg X.base CX x k ps sp) (hP : X.prog = Pg) (hr : Room k X.A) (hg : Gl X x) (hx : Passes CX X E) (hkw : PK X kws tk) (hall : (backToKw pos (keywordEach kws X.env)).all (·.1.isSome) = true := by rfl)
    (hks : (backToKw pos (keywordEach kws X.env)).filterMap (·.1) = ps.reverse := by rfl) (hdb : (x == ("__debug__" : Str)) = false := by decide)
    (hpl : ((backTo pos (starEach [] X.env)).any (·.1) || (backToKw pos (keywordEach kws X.env)).any (·.1.isNone)) = false := by rfl) :
    PE X (.Call (.Name x p) [] kws pos) (fun σ H Q => tk σ H fun zs H1 => zs.length = ps.length ∧ sp zs.reverse H1 Q E) := by
  obtain ⟨f, fd, hm, hk, _, hb, F⟩ := G.ex
  refine ⟨fun pins s σ H Q I h => ?_⟩
  refine wpAny_Call_Name_kw (ld_glob I hg hm ?_ hdb)
  refine PySem.W.callWith_KW0 (h₀ := X.base) I.ok.mod.kin hk hall (thn (hkw.run pos pins s σ H _ I h) fun ws s2 ⟨zs, H2, I2, rz, hl, q2⟩ => ⟨I2.kIn, ?_⟩) hpl
  rw [hks]
  have rr : Vals zs.reverse ws.reverse := rz.reverse
  rw [← hP] at F
  refine wpAny_call (codeAny_mono (F.run X.A X.stack s2 H2 ⟨[], ps.reverse.zip ws⟩ ws.reverse zs.reverse Q E hr I2.env0 (hb s2 ws (rz.length.symm.trans hl)) rr q2) fun r s' hq => ?_)
  cases r with
  | error e => exact hx pins σ H2 s2 e s' I2 hq
  | ok fl =>
    cases fl with
    | ret u => exact I2.after hq
    | next => exact False.elim hq
    | brk => exact False.elim hq
    | cont => exact False.elim hq
end
theorem hu_64 {A : Around} {k : Nat} (hr : Room k A) : A.units + 64 < cLine := hr.units
theorem hu_65 {A : Around} {k : Nat} (hr : Room k A) : A.units + 65 < cLine := by have := hr.un; omega
/-! ### data in the heap -/
/-- an end as a value -/
def eV : Option Int → V
  | none => .non
  | some i => .int i
/-- the law's rows: lists in a list -/
def RL (H : Hp) (r : Addr) (as : List Addr) (rows : Rw) : Prop := H r = some (.lst (as.map V.ref)) ∧ as.length = rows.length ∧ ∀ (i : Nat) (a : Addr) (row : List (Option Int)), as[i]? = some a → rows[i]? = some row → H a = some (.lst (row.map eV))
/-- the merger's rows: tuples in a tuple -/
def RT (H : Hp) (r : Addr) (as : List Addr) (rows : Rw) : Prop := H r = some (.tup (as.map V.ref)) ∧ as.length = rows.length ∧ ∀ (i : Nat) (a : Addr) (row : List (Option Int)), as[i]? = some a → rows[i]? = some row → H a = some (.tup (row.map eV))
/-- the merger at m -/
def Mg (C : Addr) (H : Hp) (m : Addr) (n : Nat) (rows : Rw) : Prop := ∃ (dx r : Addr) (as : List Addr), H m = some (.ins C dx [(("commands" : Str), V.int (n : Nat)), (("rows" : Str), V.ref r)]) ∧ RT H r as rows
def iV (l : List Int) : List V := l.map V.int
def nV (l : List Nat) : List V := l.map fun i => V.int (i : Nat)
/-- all but what stands at b is kept -/
def Keep (b : Addr) (H H' : Hp) : Prop := ∀ a o, a ≠ b → H a = some o → H' a = some o
theorem Keep.refl (b : Addr) (H : Hp) : Keep b H H := fun _ _ _ h => h
theorem Keep.trans {b : Addr} {H H1 H2 : Hp} (x : Keep b H H1) (y : Keep b H1 H2) : Keep b H H2 := fun a o n h => y a o n (x a o n h)
theorem Keep.of {b : Addr} {H H' : Hp} (x : Same H H') : Keep b H H' := fun a o _ h => x a o h
theorem same_new {H : Hp} {p : Addr} {o : HO} (h : H p = none) : Same H (upd H p o) := fun a u e => by
  rw [upd_ne (ne_of_none e h)]
  exact e
theorem _root_.L2.Same.new {H0 H : Hp} {p : Addr} {o : HO} (s : Same H0 H) (h : H p = none) : Same H0 (upd H p o) := s.trans (same_new h)
theorem keep_upd {b : Addr} {H : Hp} {o : HO} : Keep b H (upd H b o) := fun a u n e => by
  rw [upd_ne n]
  exact e
theorem RL.same {H H' : Hp} {r : Addr} {as : List Addr} {rows : Rw} (h : RL H r as rows) (s : Same H H') : RL H' r as rows := ⟨s _ _ h.1, h.2.1, fun i a row e1 e2 => s _ _ (h.2.2 i a row e1 e2)⟩
theorem RT.same {H H' : Hp} {r : Addr} {as : List Addr} {rows : Rw} (h : RT H r as rows) (s : Same H H') : RT H' r as rows := ⟨s _ _ h.1, h.2.1, fun i a row e1 e2 => s _ _ (h.2.2 i a row e1 e2)⟩
theorem Mg.same {C : Addr} {H H' : Hp} {m : Addr} {n : Nat} {rows : Rw} (h : Mg C H m n rows) (s : Same H H') : Mg C H' m n rows :=
  let ⟨dx, r, as, h1, h2⟩ := h
  ⟨dx, r, as, s _ _ h1, h2.same s⟩
theorem RL.keep {b : Addr} {H H' : Hp} {r : Addr} {as : List Addr} {rows : Rw} (h : RL H r as rows) (s : Keep b H H') (h1 : r ≠ b) (h2 : ∀ a ∈ as, a ≠ b) : RL H' r as rows :=
  ⟨s _ _ h1 h.1, h.2.1, fun i a row e1 e2 => s _ _ (h2 a (List.mem_of_getElem? e1)) (h.2.2 i a row e1 e2)⟩
theorem RL.row {H : Hp} {r : Addr} {as : List Addr} {rows : Rw} (h : RL H r as rows) {i : Nat} {row : List (Option Int)} (e : rows[i]? = some row) : ∃ a, as[i]? = some a ∧ H a = some (.lst (row.map eV)) := by
  have hl : i < as.length := by
    have := (List.getElem?_eq_some_iff.mp e).1
    rw [h.2.1]; exact this
  exact ⟨as[i], List.getElem?_eq_getElem hl, h.2.2 i _ row (List.getElem?_eq_getElem hl) e⟩
theorem RT.row {H : Hp} {r : Addr} {as : List Addr} {rows : Rw} (h : RT H r as rows) {i : Nat} {row : List (Option Int)} (e : rows[i]? = some row) : ∃ a, as[i]? = some a ∧ H a = some (.tup (row.map eV)) := by
  have hl : i < as.length := by
    have := (List.getElem?_eq_some_iff.mp e).1
    rw [h.2.1]; exact this
  exact ⟨as[i], List.getElem?_eq_getElem hl, h.2.2 i _ row (List.getElem?_eq_getElem hl) e⟩
/-- the rows stand apart from what was free -/
theorem RL.off {H : Hp} {r b : Addr} {as : List Addr} {rows : Rw} (h : RL H r as rows) (hb : H b = none) : r ≠ b ∧ ∀ a ∈ as, a ≠ b := by
  refine ⟨ne_of_none h.1 hb, fun a ha => ?_⟩
  obtain ⟨i, hi⟩ := List.mem_iff_getElem?.mp ha
  have hl : i < rows.length := by
    have := (List.getElem?_eq_some_iff.mp hi).1
    rw [← h.2.1]; exact this
  exact ne_of_none (h.2.2 i a _ hi (List.getElem?_eq_getElem hl)) hb
/-- merger and tuples stand apart from a list -/
theorem Mg.keep {C : Addr} {b : Addr} {H H' : Hp} {m : Addr} {n : Nat} {rows : Rw} {xs : List V} (h : Mg C H m n rows) (s : Keep b H H') (hb : H b = some (.lst xs)) : Mg C H' m n rows := by
  obtain ⟨dx, r, as, h1, h2⟩ := h
  refine ⟨dx, r, as, s _ _ (ne_of h1 hb (by intro z; cases z)) h1, s _ _ (ne_of h2.1 hb (by intro z; cases z)) h2.1, h2.2.1, fun i a row e1 e2 => ?_⟩
  have q := h2.2.2 i a row e1 e2
  exact s _ _ (ne_of q hb (by intro z; cases z)) q
theorem at_at {α : Type} {l : List α} {f : α → V} {i : Nat} {x : α} (e : l[i]? = some x) : (l.map f)[i]? = some (f x) := by rw [List.getElem?_map, e]; rfl
theorem atI_of {l : List V} {i : Int} {v : V} (h0 : 0 ≤ i) (e : l[i.toNat]? = some v) : atI l i = some v := by
  obtain ⟨k, rfl⟩ := Int.eq_ofNat_of_zero_le h0
  exact atI_nat (by simpa using e)
/-- rows[a][b], step by step -/
theorem RT.get {H : Hp} {r : Addr} {as : List Addr} {rows : Rw} {n : Nat} (h : RT H r as rows) (s : Sq rows n) {a b : Int} (ha : Com n a) (hb : Com n b) :
    ∃ (q : Addr) (row : List (Option Int)), atI (as.map V.ref) a = some (.ref q) ∧ H q = some (.tup (row.map eV)) ∧ atI (row.map eV) b = some (eV (rows.at a b)) ∧ row.length = n := by
  obtain ⟨row, h1, h2⟩ := s.endAt ha hb
  obtain ⟨q, e1, e2⟩ := h.row h1
  exact ⟨q, row, atI_of ha.1 (at_at e1), e2, atI_of hb.1 (at_at h2), s.row _ (List.mem_of_getElem? h1)⟩
theorem RL.get {H : Hp} {r : Addr} {as : List Addr} {rows : Rw} {n : Nat} (h : RL H r as rows) (s : Sq rows n) {a b : Int} (ha : Com n a) (hb : Com n b) :
    ∃ (q : Addr) (row : List (Option Int)), atI (as.map V.ref) a = some (.ref q) ∧ H q = some (.lst (row.map eV)) ∧ atI (row.map eV) b = some (eV (rows.at a b)) ∧ row.length = n := by
  obtain ⟨row, h1, h2⟩ := s.endAt ha hb
  obtain ⟨q, e1, e2⟩ := h.row h1
  exact ⟨q, row, atI_of ha.1 (at_at e1), e2, atI_of hb.1 (at_at h2), s.row _ (List.mem_of_getElem? h1)⟩
/-! ### built-ins by values, the written part named -/
def rTupO (K : PySem.W.Frag) : List V → Hp → VK → Prop := fun xs H Q => ∃ p ys, xs = [.ref p] ∧ ((SqL K H p ys ∧ ∀ l, H l = none → Q (.ref l) (upd H l (.tup ys))) ∨ (SqT K H p ys ∧ Q (.ref p) H))
def rLstO (K : PySem.W.Frag) : List V → Hp → VK → Prop := fun xs H Q => ∃ p ys, xs = [.ref p] ∧ (SqL K H p ys ∨ SqT K H p ys) ∧ ∀ l, H l = none → Q (.ref l) (upd H l (.lst ys))
def rLenO (K : PySem.W.Frag) : List V → Hp → VK → Prop := fun xs H Q => ∃ p ys, xs = [.ref p] ∧ (SqL K H p ys ∨ SqT K H p ys) ∧ Q (.int (ys.length : Nat)) H
theorem c_tuple (K : PySem.W.Frag) {X : Cx} (h : X.K = K := by rfl) : CallR X (.type "tuple") (rTupO K) := by subst h; exact call_tuple_of
theorem c_list (K : PySem.W.Frag) {X : Cx} (h : X.K = K := by rfl) : CallR X (.type "list") (rLstO K) := by subst h; exact call_list_of
theorem c_len (K : PySem.W.Frag) {X : Cx} (h : X.K = K := by rfl) : CallR X (.builtin "len") (rLenO K) := by subst h; exact call_len_seq
theorem map_item {α : Type} {l : List α} {f : α → V} {i : Nat} {v : V} (e : (l.map f)[i]? = some v) : ∃ a, l[i]? = some a ∧ v = f a := by
  rw [List.getElem?_map] at e
  cases z : l[i]? with
  | none => rw [z] at e; cases e
  | some a => rw [z] at e; exact ⟨a, rfl, (Option.some.inj e).symm⟩
theorem get_of {α : Type} {l : List α} {i n : Nat} (h : i < n) (hl : l.length = n) : ∃ a, l[i]? = some a := ⟨l[i]'(by omega), List.getElem?_eq_getElem (by omega)⟩
theorem lt_of {α : Type} {l : List α} {i : Nat} {a : α} (e : l[i]? = some a) : i < l.length := (List.getElem?_eq_some_iff.mp e).1
theorem pg_tupK (K : PySem.W.Frag) {X : Cx} {es : List Expr} {k : Nat} {t : TGs} {n : Nat} {pos : Pos} (hc : X.calm = true) (h : PGs X es t) (hK : X.K = K := by rfl) (hn : (assignEach es X.env).length = n := by rfl) (hst : (assignEach es X.env).findIdx? (·.1) = none := by rfl) : PG X (.Tuple es k pos) (gTup K n t) := by
  subst hK
  exact pg_tup hc h hn hst
theorem x_tup (K : PySem.W.Frag) {X : Cx} (hK : X.K = K := by rfl) : IxR X (rIxT K) := by subst hK; exact ix_tup
theorem x_list (K : PySem.W.Frag) {X : Cx} (hK : X.K = K := by rfl) : IxR X (rIxL K) := by subst hK; exact ix_list
theorem p_list (K : PySem.W.Frag) {X : Cx} {e tg : Expr} {te : TE} (he : PE X e te) (hK : X.K = K := by rfl) : PI X tg e (iList K te) := by subst hK; exact pi_list he
end K7
end

section
-- K7Words
set_option Elab.async false
set_option linter.all false
set_option maxRecDepth 100000
set_option maxHeartbeats 2000000
/-! words: what numbers and sequences are. -/
namespace K7
open PySem PySem.Spec PyProof.Rows L2
/-- a value that is told: its kind -/
inductive Kd (H : Hp) : V → Prop
  | non : Kd H .non
  | bl (b : Bool) : Kd H (.bl b)
  | int (i : Int) : Kd H (.int i)
  | str (x : Str) : Kd H (.str x)
  | lst {a : Addr} {xs : List V} (e : H a = some (.lst xs)) : Kd H (.ref a)
  | tup {a : Addr} {xs : List V} (e : H a = some (.tup xs)) : Kd H (.ref a)
theorem Kd.same {H H' : Hp} {v : V} (k : Kd H v) (s : Same H H') : Kd H' v := by
  cases k with
  | non => exact .non
  | bl b => exact .bl b
  | int i => exact .int i
  | str x => exact .str x
  | lst e => exact .lst (s _ _ e)
  | tup e => exact .tup (s _ _ e)
def isI : V → Bool
  | .int _ => true
  | _ => false
def isN : V → Bool
  | .int i => decide (0 ≤ i)
  | _ => false
def isB : V → Int → Bool
  | .int i, n => decide (0 ≤ i) && decide (i < n)
  | _, _ => false
theorem isB_iff {v : V} {n : Int} : isB v n = true ↔ ∃ i, v = .int i ∧ 0 ≤ i ∧ i < n := by
  cases v with
  | int i => simp [isB]
  | _ => simp [isB]
def isS (H : Hp) : V → Bool
  | .ref _ => true
  | _ => false
def spIsInteger : Sp := fun vs H Q _ => ∃ v, vs = [v] ∧ Kd H v ∧ Q (.bl (isI v)) H
def spIsNumber : Sp := fun vs H Q _ => ∃ v, vs = [v] ∧ Kd H v ∧ Q (.bl (isN v)) H
def spIsBelow : Sp := fun vs H Q _ => ∃ v n, vs = [v, .int n] ∧ Kd H v ∧ Q (.bl (isB v n)) H
def spIsSequence : Sp := fun vs H Q _ => ∃ v, vs = [v] ∧ Kd H v ∧ ∀ p cs, H p = none → Q (.bl (isS H v)) (upd H p (.tup cs))
def spIsEnd : Sp := fun vs H Q _ => ∃ e n, vs = [eV e, .int n] ∧ (∀ i, e = some i → -1 ≤ i ∧ i < n) ∧ Q (.bl true) H
section
variable {w : World} {K : PySem.W.Frag} {mg : Str → Option Value} {base : Heap} {C : Addr}
abbrev scIIN : List Str := ["value"]
theorem scII : FnScope scIIN ["value"] (defScope sIsInteger) := ⟨rfl, rfl, rfl, by decide +kernel, rfl, by decide +kernel, by decide +kernel⟩
theorem kd_int {H : Hp} {v : V} (k : Kd H v) : ∃ t b c, TyX K H v (.type t) ∧ kitB t "int" = some b ∧ kitB t "bool" = some c ∧ isI v = (b && !c) := by
  cases k with
  | non => exact ⟨_, false, false, .base .non, by decide +kernel, by decide +kernel, rfl⟩
  | bl b => exact ⟨_, true, true, .base (.bl b), by decide +kernel, by decide +kernel, rfl⟩
  | int i => exact ⟨_, true, false, .base (.int i), by decide +kernel, by decide +kernel, rfl⟩
  | str x => exact ⟨_, false, false, .base (.str x), by decide +kernel, by decide +kernel, rfl⟩
  | lst e => exact ⟨_, false, false, .base (.lst e), by decide +kernel, by decide +kernel, rfl⟩
  | tup e => exact ⟨_, false, false, .base (.tup e), by decide +kernel, by decide +kernel, rfl⟩
theorem ok_isInteger (D : DefAt K mg "is_integer" sIsInteger) (T : Txt K mg C) : Keeps w K mg base CX0 "is_integer" 1 ["value"] spIsInteger := by
  refine keeps0 D scII (fun vs H Q E h => ?_) (fun _ _ _ _ _ _ us hl => match us, hl with | [_], _ => rfl) fun f cdv A outer s H vs Q E hr h => ?_
  · obtain ⟨v, rfl, _⟩ := h
    rfl
  · obtain ⟨v, rfl, k, q⟩ := h
    refine ⟨_, (pss_one (ps_ret (pe_and (pe_callB call_isi (by rfl) T.isinstance boot_isinstance (pa_cons (pv 0) (pa_cons (pe_bltn (v := .ty "int") (by rfl) T.int boot_int rfl) pa_nil))) (pe_one (pe_not (pe_callB call_isi (by rfl) T.isinstance boot_isinstance (pa_cons (pv 0) (pa_cons (pe_bltn (v := .ty "bool") (by rfl) T.bool boot_bool rfl) pa_nil)))))))), ?_⟩
    obtain ⟨t, b, c, ty, h1, h2, h3⟩ := kd_int (K := K) k
    rw [h3] at q
    refine ⟨_, rfl, _, _, _, _, b, rfl, .ty "int", ty, kit_ty h1, b, rfl, ?_⟩
    cases b with
    | false => exact iteF q
    | true =>
      refine iteT ⟨_, rfl, _, _, _, _, c, rfl, .ty "bool", ty, kit_ty h2, c, rfl, ?_⟩
      exact q
abbrev scINN : List Str := ["value"]
theorem scIN : FnScope scINN ["value"] (defScope sIsNumber) := ⟨rfl, rfl, rfl, by decide +kernel, rfl, by decide +kernel, by decide +kernel⟩
theorem ok_isNumber (D : DefAt K mg "is_number" sIsNumber) (T : Txt K mg C) (G_is_integer : Keeps w K mg base CX0 "is_integer" 1 ["value"] spIsInteger) : Keeps w K mg base CX0 "is_number" 2 ["value"] spIsNumber := by
  refine keeps0 D scIN (fun vs H Q E h => ?_) (fun _ _ _ _ _ _ us hl => match us, hl with | [_], _ => rfl) fun f cdv A outer s H vs Q E hr h => ?_
  · obtain ⟨v, rfl, _⟩ := h
    rfl
  · obtain ⟨v, rfl, k, q⟩ := h
    refine ⟨_, (pss_one (ps_ret (pe_and (pe_k G_is_integer rfl (hr.mono (by decide)) (by rfl) pass0 (pa_cons (pv 0) pa_nil)) (pe_one (pe_cmpR op_ge (pv 0) pe_int (nomark _)))))), ?_⟩
    refine ⟨_, rfl, v, rfl, k, _, rfl, ?_⟩
    cases v with
    | int i => exact iteT ⟨_, rfl, _, _, rfl, rfl, q⟩
    | _ => exact iteF q
abbrev scIBN : List Str := ["value", "most"]
theorem scIB : FnScope scIBN ["value", "most"] (defScope sIsBelow) := ⟨rfl, rfl, rfl, by decide +kernel, rfl, by decide +kernel, by decide +kernel⟩
theorem ok_isBelow (D : DefAt K mg "is_below" sIsBelow) (T : Txt K mg C) (G_is_number : Keeps w K mg base CX0 "is_number" 2 ["value"] spIsNumber) : Keeps w K mg base CX0 "is_below" 3 ["value", "most"] spIsBelow := by
  refine keeps0 D scIB (fun vs H Q E h => ?_) (fun _ _ _ _ _ _ us hl => match us, hl with | [_, _], _ => rfl) fun f cdv A outer s H vs Q E hr h => ?_
  · obtain ⟨v, n, rfl, _⟩ := h
    rfl
  · obtain ⟨v, n, rfl, k, q⟩ := h
    refine ⟨_, (pss_one (ps_ret (pe_and (pe_k G_is_number rfl (hr.mono (by decide)) (by rfl) pass0 (pa_cons (pv 0) pa_nil)) (pe_one (pe_cmpR op_lt (pv 0) (pv 1) (nomark _)))))), ?_⟩
    refine ⟨_, rfl, v, rfl, k, _, rfl, ?_⟩
    cases v with
    | int i =>
      by_cases h0 : 0 ≤ i
      · have e : isN (.int i) = true := decide_eq_true h0
        rw [e]
        refine iteT ⟨_, rfl, _, rfl, _, _, rfl, rfl, ?_⟩
        have e2 : isB (.int i) n = decide (i < n) := by simp [isB, h0]
        rw [e2] at q
        exact q
      · have e : isN (.int i) = false := decide_eq_false h0
        rw [e]
        have e2 : isB (.int i) n = false := by simp [isB, h0]
        rw [e2] at q
        exact iteF q
    | _ => exact iteF q
abbrev scISN : List Str := ["value"]
theorem scIS : FnScope scISN ["value"] (defScope sIsSequence) := ⟨rfl, rfl, rfl, by decide +kernel, rfl, by decide +kernel, by decide +kernel⟩
theorem kd_seq {H : Hp} {v : V} (k : Kd H v) : ∃ t b c, TyX K H v (.type t) ∧ kitB t "list" = some b ∧ kitB t "tuple" = some c ∧ isS H v = (b || c) := by
  cases k with
  | non => exact ⟨_, false, false, .base .non, by decide +kernel, by decide +kernel, rfl⟩
  | bl b => exact ⟨_, false, false, .base (.bl b), by decide +kernel, by decide +kernel, rfl⟩
  | int i => exact ⟨_, false, false, .base (.int i), by decide +kernel, by decide +kernel, rfl⟩
  | str x => exact ⟨_, false, false, .base (.str x), by decide +kernel, by decide +kernel, rfl⟩
  | lst e => exact ⟨_, true, false, .base (.lst e), by decide +kernel, by decide +kernel, rfl⟩
  | tup e => exact ⟨_, false, true, .base (.tup e), by decide +kernel, by decide +kernel, rfl⟩
theorem ok_isSequence (D : DefAt K mg "is_sequence" sIsSequence) (T : Txt K mg C) : Keeps w K mg base CX0 "is_sequence" 1 ["value"] spIsSequence := by
  refine keeps0 D scIS (fun vs H Q E h => ?_) (fun _ _ _ _ _ _ us hl => match us, hl with | [_], _ => rfl) fun f cdv A outer s H vs Q E hr h => ?_
  · obtain ⟨v, rfl, _⟩ := h
    rfl
  · obtain ⟨v, rfl, k, q⟩ := h
    refine ⟨_, (pss_one (ps_ret (pe_callB call_isiT (by rfl) T.isinstance boot_isinstance (pa_cons (pv 0) (pa_cons (pe_tup (pa_cons (pe_bltn (v := .ty "list") (by rfl) T.list boot_list rfl) (pa_cons (pe_bltn (v := .ty "tuple") (by rfl) T.tuple boot_tuple rfl) pa_nil))) pa_nil))))), ?_⟩
    refine ⟨_, rfl, by show 2 ≤ sizeLine; decide, fun p hp => ?_⟩
    obtain ⟨t, b, c, ty, h1, h2, h3⟩ := kd_seq (K := K) (k.same (same_new (o := .tup [.ty "list", .ty "tuple"]) hp))
    have e : isS H v = (b || c) := by
      cases k <;> exact h3
    refine ⟨_, p, _, _, _, b || c, rfl, upd_same, .cons (.ty "list") (.cons (.ty "tuple") .nil), ty, ?_, ?_⟩
    · refine kitAny_cons (kit_ty h1) (fun hb => ?_) (fun hb => by rw [hb]; rfl)
      rw [hb]
      refine kitAny_cons (kit_ty h2) (fun hc => ?_) (fun hc => by rw [hc]; rfl)
      rw [hc]
      exact kitAny_nil
    · rw [← e]
      exact q p _ hp
abbrev scIEN : List Str := ["value", "many"]
theorem scIE : FnScope scIEN ["value", "many"] (defScope sIsEnd) := ⟨rfl, rfl, rfl, by decide +kernel, rfl, by decide +kernel, by decide +kernel⟩
theorem ok_isEnd (D : DefAt K mg "is_end" sIsEnd) (T : Txt K mg C) (G_is_integer : Keeps w K mg base CX0 "is_integer" 1 ["value"] spIsInteger) : Keeps w K mg base CX0 "is_end" 2 ["value", "many"] spIsEnd := by
  refine keeps0 D scIE (fun vs H Q E h => ?_) (fun _ _ _ _ _ _ us hl => match us, hl with | [_, _], _ => rfl) fun f cdv A outer s H vs Q E hr h => ?_
  · obtain ⟨v, n, rfl, _⟩ := h
    rfl
  · obtain ⟨e, n, rfl, k, q⟩ := h
    obtain ⟨_, gGONE⟩ := T.cGONE
    refine ⟨_, (pss_one (ps_ret (pe_or (pe_cmpR op_isN (pv 0) pe_non (nomark _)) (pe_one (pe_and (pe_k G_is_integer rfl (hr.mono (by decide)) (by rfl) pass0 (pa_cons (pv 0) pa_nil)) (pe_one (pe_chain op_le op_lt (pe_glob (v := .int (-1)) rfl gGONE ⟨_, rfl⟩) (pv 0) (pv 1)))))))), ?_⟩
    cases e with
    | none =>
      refine ⟨_, rfl, rfl, _, rfl, ?_⟩
      exact iteT q
    | some i =>
      obtain ⟨h1, h2⟩ := k i rfl
      refine ⟨_, rfl, rfl, _, rfl, ?_⟩
      refine iteF ⟨_, rfl, _, rfl, .int i, _, rfl, ?_⟩
      refine iteT ⟨_, rfl, _, _, rfl, rfl, _, rfl, ?_⟩
      rw [decide_eq_true h1]
      refine iteT ⟨_, rfl, _, _, rfl, rfl, ?_⟩
      show Q (.bl (decide (i < n))) H
      rw [decide_eq_true h2]
      exact q
end
end K7
end

section
-- K7Merger
set_option Elab.async false
set_option linter.all false
set_option maxRecDepth 100000
set_option maxHeartbeats 4000000
/-! mergers: rows checked, the three that end otherwise, the merger made. -/
namespace K7
open PySem PySem.Spec PyProof.Rows L2
/-- the two ends of three, as values -/
def eL (rows : Rw) (x oth : Int) : V := if x = -1 then .int oth else eV (rows.at x oth)
def eR (rows : Rw) (one y : Int) : V := if y = -1 then .int one else eV (rows.at one y)
def spEndsOf : Sp := fun vs H Q _ => ∃ (r : Addr) (as : List Addr) (rows : Rw) (n : Nat) (a b c : Int), vs = [.ref r, .int a, .int b, .int c] ∧ RT H r as rows ∧ Sq rows n ∧ Com n a ∧ Com n b ∧ Com n c ∧
  (rows.at a b = none ∨ rows.at b c = none → Q .non H) ∧ (∀ x y, rows.at a b = some x → rows.at b c = some y → ∀ p, H p = none → Q (.ref p) (upd H p (.tup [eL rows x c, eR rows a y])))
def spUnsoundThree : Sp := fun vs H Q _ => ∃ (r : Addr) (as : List Addr) (rows : Rw) (n : Nat), vs = [.ref r] ∧ RT H r as rows ∧ Sq rows n ∧ Sound rows n ∧ ∀ H', Same H H' → Q .non H'
def spCheckRows : Sp := fun vs H Q _ => ∃ (r : Addr) (as : List Addr) (rows : Rw) (n : Nat), vs = [.ref r] ∧ RL H r as rows ∧ Sq rows n ∧ ∀ H' p as', Same H H' → H p = none → RT H' p as' rows → Q (.ref p) H'
def spInit (C : Addr) : Sp := fun vs H Q _ => ∃ (m dx r : Addr) (as : List Addr) (rows : Rw) (n : Nat), vs = [.ref m, .ref r] ∧ H m = some (.ins C dx []) ∧ RL H r as rows ∧ Sq rows n ∧ Sound rows n ∧ ∀ H', Keep m H H' → Mg C H' m n rows → Q .non H'
theorem atI_one {v w : V} : atI [v, w] 1 = some w := rfl
theorem atI_zero {v w : V} : atI [v, w] 0 = some v := rfl
theorem eV_non {e : Option Int} : decide (eV e = V.non) = e.isNone := by
  cases e <;> simp [eV]
section
variable {w : World} {K : PySem.W.Frag} {mg : Str → Option Value} {base : Heap} {C : Addr}
abbrev scEON : List Str := ["rows", "one", "middle", "other", "ahead", "behind", "left", "right"]
theorem scEO : FnScope scEON ["rows", "one", "middle", "other"] (defScope sEndsOf) := ⟨rfl, rfl, rfl, by decide +kernel, rfl, by decide +kernel, by decide +kernel⟩
theorem ok_endsOf (D : DefAt K mg "ends_of" sEndsOf) (T : Txt K mg C) : Keeps w K mg base CX0 "ends_of" 1 ["rows", "one", "middle", "other"] spEndsOf := by
  refine keeps0 D scEO (fun vs H Q E h => ?_) (fun _ _ _ _ _ _ us hl => match us, hl with | [_, _, _, _], _ => rfl) fun f cdv A outer s H vs Q E hr h => ?_
  · obtain ⟨r, as, rows, n, a, b, c, rfl, _⟩ := h
    rfl
  · obtain ⟨r, as, rows, n, a, b, c, rfl, hT, sq, ha, hb, hc, q1, q2⟩ := h
    obtain ⟨_, gGONE⟩ := T.cGONE
    refine ⟨_, (pss_cons (ps_par (i := 4) (j := 5) rfl scEO.nd rfl rfl (by decide) rfl rfl (pa_cons (pe_ix ix_tup (pe_ix ix_tup (pv 0) (pv 1) (fun _ _ => rfl)) (pv 2) (fun _ _ => rfl)) (pa_cons (pe_ix ix_tup (pe_ix ix_tup (pv 0) (pv 2) (fun _ _ => rfl)) (pv 3) (fun _ _ => rfl)) pa_nil)) (by rfl))
      (pss_cons (ps_if (PW.pt (pw_or (pt_cmpR op_isN (pv 4) pe_non (nomark _)) (pw_or1 (pt_cmpR op_isN (pv 5) pe_non (nomark _))))) (pss_one (ps_ret pe_non)) pss_nil)
      (pss_cons (ps_set (i := 6) scEO.nd rfl (Or.inl rfl) (pe_ifExp (pt_cmpR op_eq (pv 4) (pe_glob (v := .int (-1)) rfl gGONE ⟨_, rfl⟩) (nomark _)) (pv 3) (pe_ix ix_tup (pe_ix ix_tup (pv 0) (pv 4) (fun _ _ => rfl)) (pv 3) (fun _ _ => rfl))))
      (pss_cons (ps_set (i := 7) scEO.nd rfl (Or.inl rfl) (pe_ifExp (pt_cmpR op_eq (pv 5) (pe_glob (v := .int (-1)) rfl gGONE ⟨_, rfl⟩) (nomark _)) (pv 1) (pe_ix ix_tup (pe_ix ix_tup (pv 0) (pv 1) (fun _ _ => rfl)) (pv 5) (fun _ _ => rfl))))
      (pss_one (ps_ret (pe_tup (pa_cons (pv 6) (pa_cons (pv 7) pa_nil))))))))), ?_⟩
    obtain ⟨p1, w1, f1, f2, f3, _⟩ := hT.get sq ha hb
    obtain ⟨p2, w2, g1, g2, g3, _⟩ := hT.get sq hb hc
    refine ⟨_, rfl, _, rfl, r, _, _, _, rfl, rfl, SqT.of hT.1, f1, _, rfl, p1, _, _, _, rfl, rfl, SqT.of f2, f3, ?_⟩
    refine ⟨_, rfl, _, rfl, r, _, _, _, rfl, rfl, SqT.of hT.1, g1, _, rfl, p2, _, _, _, rfl, rfl, SqT.of g2, g3, _, _, rfl, ?_⟩
    cases e1 : rows.at a b with
    | none => exact ⟨_, rfl, rfl, _, rfl, iteT (q1 (.inl e1))⟩
    | some x =>
      refine ⟨_, rfl, rfl, _, rfl, iteF ?_⟩
      cases e2 : rows.at b c with
      | none => exact ⟨_, rfl, rfl, _, rfl, iteT (q1 (.inr e2))⟩
      | some y =>
        refine ⟨_, rfl, rfl, _, rfl, iteF ?_⟩
        have fin : ∀ p, H p = none → Q (.ref p) (upd H p (.tup [eL rows x c, eR rows a y])) := q2 x y e1 e2
        -- left
        refine ⟨_, rfl, rfl, _, rfl, ?_⟩
        refine ite2 (fun hx => ?_) (fun hx => ?_)
        · have hx' : x = -1 := by simpa [eV] using hx
          subst hx'
          refine ⟨_, rfl, ?_⟩
          refine ⟨_, rfl, rfl, _, rfl, ?_⟩
          refine ite2 (fun hy => ?_) (fun hy => ?_)
          · have hy' : y = -1 := by simpa [eV] using hy
            subst hy'
            exact ⟨_, rfl, _, rfl, _, rfl, by show 2 ≤ sizeLine; decide, fin⟩
          · have hy' : y ≠ -1 := by simpa [eV] using hy
            obtain ⟨p4, w4, k1, k2, k3, _⟩ := hT.get sq ha (sq.com hb hc e2 hy')
            refine ⟨_, rfl, _, rfl, r, _, _, _, rfl, rfl, SqT.of hT.1, k1, _, rfl, p4, _, _, _, rfl, rfl, SqT.of k2, k3, ?_⟩
            refine ⟨_, rfl, _, rfl, by show 2 ≤ sizeLine; decide, fun p hp => ?_⟩
            have e : eR rows a y = eV (rows.at a y) := if_neg hy'
            rw [← e]
            exact fin p hp
        · have hx' : x ≠ -1 := by simpa [eV] using hx
          have e3 : eL rows x c = eV (rows.at x c) := if_neg hx'
          obtain ⟨p3, w3, j1, j2, j3, _⟩ := hT.get sq (sq.com ha hb e1 hx') hc
          refine ⟨_, rfl, _, rfl, r, _, _, _, rfl, rfl, SqT.of hT.1, j1, _, rfl, p3, _, _, _, rfl, rfl, SqT.of j2, j3, ?_⟩
          rw [e3] at fin
          refine ⟨_, rfl, rfl, _, rfl, ?_⟩
          refine ite2 (fun hy => ?_) (fun hy => ?_)
          · have hy' : y = -1 := by simpa [eV] using hy
            subst hy'
            exact ⟨_, rfl, _, rfl, _, rfl, by show 2 ≤ sizeLine; decide, fin⟩
          · have hy' : y ≠ -1 := by simpa [eV] using hy
            obtain ⟨p4, w4, k1, k2, k3, _⟩ := hT.get sq ha (sq.com hb hc e2 hy')
            refine ⟨_, rfl, _, rfl, r, _, _, _, rfl, rfl, SqT.of hT.1, k1, _, rfl, p4, _, _, _, rfl, rfl, SqT.of k2, k3, ?_⟩
            refine ⟨_, rfl, _, rfl, by show 2 ≤ sizeLine; decide, fun p hp => ?_⟩
            have e : eR rows a y = eV (rows.at a y) := if_neg hy'
            rw [← e]
            exact fin p hp
theorem same_upd {H0 H : Hp} {p : Addr} {o : HO} (s : Same H0 H) (h : H0 p = none) : Same H0 (upd H p o) := fun a u e => by
  rw [upd_ne (ne_of_none e h)]
  exact s a u e
theorem sound_ends {rows : Rw} {n : Nat} (so : Sound rows n) {a b c x y : Int} (ha : Com n a) (hb : Com n b) (hc : Com n c) (e1 : rows.at a b = some x) (e2 : rows.at b c = some y) : eL rows x c = eR rows a y := by
  have h := so a b c ha hb hc x y e1 e2
  have l : eL rows x c = eV (if x = -1 then some c else rows.at x c) := by
    unfold eL; split <;> rfl
  have r : eR rows a y = eV (if y = -1 then some a else rows.at a y) := by
    unfold eR; split <;> rfl
  rw [l, r, h]
theorem scal_ends (rows : Rw) (x c a y : Int) : scal (eL rows x c) (eR rows a y) = true := by
  have l : ∃ e, eL rows x c = eV e := by
    unfold eL; split
    · exact ⟨some c, rfl⟩
    · exact ⟨_, rfl⟩
  have r : ∃ e, eR rows a y = eV e := by
    unfold eR; split
    · exact ⟨some a, rfl⟩
    · exact ⟨_, rfl⟩
  obtain ⟨e, h1⟩ := l
  obtain ⟨e', h2⟩ := r
  rw [h1, h2]
  cases e <;> cases e' <;> rfl
theorem rgV_at {n i : Nat} (h : i < n) : (rgV 0 (n : Nat))[i]? = some (.int (i : Nat)) := by
  unfold rgV
  rw [List.getElem?_map, List.getElem?_range (by omega)]
  simp
theorem rgV_len (n : Nat) : (rgV 0 (n : Nat)).length = n := by rw [rgV_length]; omega
theorem rgV_item {n i : Nat} {x : V} (e : (rgV 0 (n : Nat))[i]? = some x) : x = .int (i : Nat) ∧ Com n (i : Nat) := by
  have h : i < n := by
    have := (List.getElem?_eq_some_iff.mp e).1
    rw [rgV_len] at this; exact this
  rw [rgV_at h] at e
  cases e
  exact ⟨rfl, by omega, by omega⟩
abbrev scUTN : List Str := ["rows", "commands", "one", "middle", "other", "ends"]
theorem scUT : FnScope scUTN ["rows"] (defScope sUnsoundThree) := ⟨rfl, rfl, rfl, by decide +kernel, rfl, by decide +kernel, by decide +kernel⟩
theorem ok_unsoundThree (D : DefAt K mg "unsound_three" sUnsoundThree) (T : Txt K mg C) (G_ends_of : Keeps w K mg base CX0 "ends_of" 1 ["rows", "one", "middle", "other"] spEndsOf) : Keeps w K mg base CX0 "unsound_three" 2 ["rows"] spUnsoundThree := by
  refine keeps0 D scUT (fun vs H Q E h => ?_) (fun _ _ _ _ _ _ us hl => match us, hl with | [_], _ => rfl) fun f cdv A outer s H vs Q E hr h => ?_
  · obtain ⟨r, as, rows, n, rfl, _⟩ := h
    rfl
  · obtain ⟨r, as, rows, n, rfl, hT, sq, so, q⟩ := h
    refine ⟨_, (pss_cons (ps_set (i := 1) scUT.nd rfl (Or.inl rfl) (pe_listRg rfl (by rfl) T.list (prg_1 (by rfl) T.range (pe_callB (c_len K) (by rfl) T.len PySem.boot_len (pa_cons (pv 0) pa_nil)))))
      (pss_cons (ps_for PassesOwn.never rfl (pi_list (pv 1)) (pg_name (i := 2) scUT.nd rfl (Or.inl rfl)) (pss_one (ps_for PassesOwn.never rfl (pi_list (pv 1)) (pg_name (i := 3) scUT.nd rfl (Or.inl rfl)) (pss_one (ps_for PassesOwn.never rfl (pi_list (pv 1)) (pg_name (i := 4) scUT.nd rfl (Or.inl rfl)) (pss_cons (ps_set (i := 5) scUT.nd rfl (Or.inl rfl) (pe_k G_ends_of rfl (hr.mono (by decide)) (by rfl) pass0 (pa_cons (pv 0) (pa_cons (pv 2) (pa_cons (pv 3) (pa_cons (pv 4) pa_nil))))))
      (pss_one (ps_if (PW.pt (pw_and (pt_cmpR op_notN (pv 5) pe_non (nomark _)) (pw_and1 (pt_cmpR op_ne (pe_ix ix_tup (pv 5) pe_int (fun _ _ => rfl)) (pe_ix ix_tup (pv 5) pe_int (fun _ _ => rfl)) (nomark _))))) (pss_one (ps_ret (pe_tup (pa_cons (pv 2) (pa_cons (pv 3) (pa_cons (pv 4) pa_nil)))))) pss_nil))))))))
      (pss_one (ps_ret pe_non)))), ?_⟩
    have n12 := sq.most
    have len : (as.map V.ref).length = n := by rw [List.length_map, hT.2.1, sq.len]
    refine ⟨_, rfl, r, _, rfl, .inr (SqT.of hT.1), _, rfl, RgOk.of_le (by decide) (by omega) (by decide) (by omega), fun l hl => ?_⟩
    rw [len]
    have S1 : Same H (upd H l (.lst (rgV 0 (n : Nat)))) := same_new hl
    have L1 : (upd H l (.lst (rgV 0 (n : Nat)))) l = some (.lst (rgV 0 (n : Nat))) := upd_same
    generalize upd H l (.lst (rgV 0 (n : Nat))) = H1 at S1 L1
    refine ⟨_, rfl, l, rfl, ⟨_, SqL.of L1⟩, for_list (K := K) (a := l) (xs := rgV 0 (n : Nat)) (fun i σ H' => ∃ a b c d, σ = [some (.ref r), some (.ref l), a, b, c, d] ∧ Same H1 H') ⟨_, _, _, _, rfl, Same.refl _⟩
      (fun i σ H' _ ⟨_, _, _, _, _, z⟩ => SqL.of (z _ _ L1)) (fun i x σ H2 hx ⟨a, b, c, d, e, z2⟩ => ?_) (fun σ H2 ⟨a, b, c, d, e, z2⟩ => ?_)⟩
    · subst e
      obtain ⟨rfl, ci⟩ := rgV_item hx
      refine ⟨_, rfl, l, rfl, ⟨_, SqL.of (z2 _ _ L1)⟩, for_list (K := K) (a := l) (xs := rgV 0 (n : Nat)) (fun j σ H' => ∃ b c d, σ = [some (.ref r), some (.ref l), some (.int (i : Nat)), b, c, d] ∧ Same H1 H') ⟨_, _, _, rfl, z2⟩
        (fun j σ H' _ ⟨_, _, _, _, z⟩ => SqL.of (z _ _ L1)) (fun j x σ H3 hx ⟨b, c, d, e, z3⟩ => ?_) (fun σ H3 ⟨b, c, d, e, z3⟩ => ⟨_, _, _, _, e, z3⟩)⟩
      subst e
      obtain ⟨rfl, cj⟩ := rgV_item hx
      refine ⟨_, rfl, l, rfl, ⟨_, SqL.of (z3 _ _ L1)⟩, for_list (K := K) (a := l) (xs := rgV 0 (n : Nat)) (fun k σ H' => ∃ c d, σ = [some (.ref r), some (.ref l), some (.int (i : Nat)), some (.int (j : Nat)), c, d] ∧ Same H1 H') ⟨_, _, rfl, z3⟩
        (fun k σ H' _ ⟨_, _, _, z⟩ => SqL.of (z _ _ L1)) (fun k x σ H4 hx ⟨c, d, e, z4⟩ => ?_) (fun σ H4 ⟨c, d, e, z4⟩ => ⟨_, _, _, e, z4⟩)⟩
      subst e
      obtain ⟨rfl, ck⟩ := rgV_item hx
      refine ⟨_, rfl, _, rfl, _, rfl, _, rfl, r, as, rows, n, _, _, _, rfl, hT.same (S1.trans z4), sq, ci, cj, ck, fun _ => ?_, fun x y e1 e2 p hp => ?_⟩
      · refine ⟨_, rfl, rfl, _, rfl, ?_⟩
        exact iteF (iteF ⟨_, _, rfl, z4⟩)
      · refine ⟨_, rfl, rfl, _, rfl, ?_⟩
        refine iteT ⟨_, rfl, p, _, _, _, rfl, rfl, SqT.of upd_same, atI_zero, _, rfl, p, _, _, _, rfl, rfl, SqT.of upd_same, atI_one, scal_ends .., _, rfl, ?_⟩
        rw [sound_ends so ci cj ck e1 e2, decide_eq_true rfl]
        exact iteF ⟨_, _, rfl, z4.new hp⟩
    · exact q _ (S1.trans z2)
abbrev scCRN : List Str := ["rows", "at", "row", "end"]
theorem scCR : FnScope scCRN ["rows"] (defScope sCheckRows) := ⟨rfl, rfl, rfl, by decide +kernel, rfl, by decide +kernel, by decide +kernel⟩
theorem lenR {rows : Rw} {n : Nat} (sq : Sq rows n) {as : List Addr} (h : as.length = rows.length) : (as.map V.ref).length = n := by rw [List.length_map, h, sq.len]
theorem ok_checkRows (D : DefAt K mg "check_rows" sCheckRows) (T : Txt K mg C) (G_is_sequence : Keeps w K mg base CX0 "is_sequence" 1 ["value"] spIsSequence) (G_is_end : Keeps w K mg base CX0 "is_end" 2 ["value", "many"] spIsEnd) :
    Keeps w K mg base CX0 "check_rows" 3 ["rows"] spCheckRows := by
  refine keeps0 D scCR (fun vs H Q E h => ?_) (fun _ _ _ _ _ _ us hl => match us, hl with | [_], _ => rfl) fun f cdv A outer s H vs Q E hr h => ?_
  · obtain ⟨r, as, rows, n, rfl, _⟩ := h
    rfl
  · obtain ⟨r, as, rows, n, rfl, hL, sq, q⟩ := h
    obtain ⟨_, gMOST_COMMANDS⟩ := T.cMOST_COMMANDS
    refine ⟨_, (pss_cons (ps_if (PW.pt (pw_or (pt_not (pt_val (pe_k G_is_sequence rfl (hr.mono (by decide)) (by rfl) pass0 (pa_cons (pv 0) pa_nil)))) (pw_or1 (pt_not (pt_chain op_le op_le pe_int (pe_callB (c_len K) (by rfl) T.len PySem.boot_len (pa_cons (pv 0) pa_nil)) (pe_glob (v := .int (12)) rfl gMOST_COMMANDS ⟨_, rfl⟩)))))) (pss_one ps_never) pss_nil)
      (pss_cons (ps_for PassesOwn.never rfl (pi_enumS (by rfl) T.enumerate (pa_cons (pv 0) pa_nil)) (pg_tup (by rfl) (pgs_cons (pg_name (i := 1) scCR.nd rfl (Or.inl rfl)) (pgs_cons (pg_name (i := 2) scCR.nd rfl (Or.inl rfl)) pgs_nil))) (pss_one (ps_if (PW.pt (pw_or (pt_not (pt_val (pe_k G_is_sequence rfl (hr.mono (by decide)) (by rfl) pass0 (pa_cons (pv 2) pa_nil)))) (pw_or (pt_cmpR op_ne (pe_callB (c_len K) (by rfl) T.len PySem.boot_len (pa_cons (pv 2) pa_nil)) (pe_callB (c_len K) (by rfl) T.len PySem.boot_len (pa_cons (pv 0) pa_nil)) (nomark _)) (pw_or1 (pt_not (pt_val (pe_callB (cr_all rfl) (by rfl) T.all (by decide +kernel) (pa_cons (pe_lc (own := [("end", 3)]) (g := gName 3) rfl scCR.nd (pi_list (pv 2)) (blkOk_by (own := [("end", 3)]) (N := scCRN) (sc := defScope sCheckRows) (by decide +kernel)) (fun _ _ _ _ _ => (pg_name (i := 3) scCR.nd rfl (Or.inl rfl))) (fun _ _ _ _ _ => pts_nil) (fun _ _ _ _ _ => (pe_k G_is_end rfl (hr.mono (by decide)) (by rfl) pass0 (pa_cons (pv 3) (pa_cons (pe_callB (c_len K) (by rfl) T.len PySem.boot_len (pa_cons (pv 0) pa_nil)) pa_nil))))) pa_nil)))))))) (pss_one ps_never) pss_nil)))
      (pss_one (ps_ret (pe_callTy (c_tuple K) (by rfl) T.tuple boot_tuple (pa_cons (pe_lc (own := [("row", 2)]) (g := gName 2) rfl scCR.nd (pi_list (pv 0)) (blkOk_by (own := [("row", 2)]) (N := scCRN) (sc := defScope sCheckRows) (by decide +kernel)) (fun _ _ _ _ _ => (pg_name (i := 2) scCR.nd rfl (Or.inl rfl))) (fun _ _ _ _ _ => pts_nil) (fun _ _ _ _ _ => (pe_callTy (c_tuple K) (by rfl) T.tuple boot_tuple (pa_cons (pv 2) pa_nil)))) pa_nil)))))), ?_⟩
    have n1 := sq.pos
    have n12 := sq.most
    have len := lenR sq hL.2.1
    refine ⟨_, rfl, _, rfl, .lst hL.1, fun p cs hp => ⟨_, rfl, iteF ?_⟩⟩
    have S0 : Same H (upd H p (.tup cs)) := same_new hp
    generalize upd H p (.tup cs) = H0 at S0
    refine ⟨_, rfl, r, _, rfl, .inl (SqL.of (S0 _ _ hL.1)), _, _, rfl, rfl, _, rfl, ?_⟩
    rw [len]
    rw [decide_eq_true (show (1 : Int) ≤ (n : Nat) by omega)]
    refine iteT ⟨_, _, rfl, rfl, _, rfl, ?_⟩
    rw [decide_eq_true (show ((n : Nat) : Int) ≤ 12 by omega)]
    refine iteF ?_
    refine ⟨_, rfl, r, _, rfl, .inl ⟨SqL.of (S0 _ _ hL.1), for_it (walk_enum (K := K) (a := r) (xs := as.map V.ref)) (fun i σ H' => ∃ a b, σ = [some (.ref r), a, b, none] ∧ Same H H') ⟨_, _, rfl, S0⟩
      (fun i σ H' _ ⟨_, _, _, z⟩ => SqL.of (z _ _ hL.1)) (fun i x σ H1 H1' hi ⟨a, b, e, z1⟩ y => ?_) (fun σ H1 ⟨a, b, e, z1⟩ => ?_)⟩⟩
    · subst e
      obtain ⟨t, u, v, rfl, ht, rfl, e1, e2⟩ := y
      have e1' : u = .int (i : Nat) := (Option.some.inj e1).symm
      subst e1'
      obtain ⟨ai, ha, rfl⟩ := map_item (l := as) (f := V.ref) e2
      have hir : i < rows.length := by
        have := (List.getElem?_eq_some_iff.mp ha).1
        rw [← hL.2.1]; exact this
      have hrow : rows[i]? = some rows[i] := List.getElem?_eq_getElem hir
      generalize rows[i] = row at hrow
      have hrm := List.mem_of_getElem? hrow
      have hai := hL.2.2 i ai row ha hrow
      have S1 : Same H (upd H1 t (.tup [.int (i : Nat), .ref ai])) := z1.new ht
      have T1 : (upd H1 t (.tup [.int (i : Nat), .ref ai])) t = some (.tup [.int (i : Nat), .ref ai]) := upd_same
      generalize upd H1 t (.tup [.int (i : Nat), .ref ai]) = H2 at S1 T1
      refine ⟨t, _, rfl, SqT.of T1, rfl, _, _, rfl, _, _, rfl, rfl, ?_⟩
      refine ⟨_, rfl, _, rfl, .lst (S1 _ _ hai), fun p2 cs2 hp2 => ⟨_, rfl, iteF ?_⟩⟩
      have S2 : Same H (upd H2 p2 (.tup cs2)) := S1.new hp2
      generalize upd H2 p2 (.tup cs2) = H3 at S2
      have lr : (row.map eV).length = n := by rw [List.length_map]; exact sq.row _ hrm
      refine ⟨_, rfl, ai, _, rfl, .inl (SqL.of (S2 _ _ hai)), _, rfl, r, _, rfl, .inl (SqL.of (S2 _ _ hL.1)), ?_⟩
      rw [len, lr]
      refine ⟨rfl, _, rfl, ?_⟩
      rw [decide_eq_true rfl]
      refine iteF ?_
      refine ⟨_, rfl, ai, rfl, ⟨_, SqL.of (S2 _ _ hai)⟩, fun dd hd => lc_list (K := K) (a := ai) (xs := row.map eV) (fun j H' => Same H H' ∧ H dd = none ∧ H' dd = some (.lst ((List.replicate j true).map V.bl)))
        ⟨S2.new hd, S2.free hd, upd_same⟩ (fun j H' _ z => SqL.of (z.1 _ _ hai)) (fun j x H4 hx ⟨z1, z2, z3⟩ => ?_) (fun H4 ⟨z1, z2, z3⟩ => ?_)⟩
      · obtain ⟨e, he, rfl⟩ := map_item hx
        have hj : j < n := by
          have := (List.getElem?_eq_some_iff.mp hx).1
          omega
        refine ⟨rfl, ?_⟩
        refine ⟨_, rfl, _, rfl, r, _, rfl, .inl (SqL.of (z1 _ _ hL.1)), ?_⟩
        rw [len]
        refine ⟨e, _, rfl, fun c hc => ?_, _, z3, ?_, same_upd z1 z2, z2, ?_⟩
        · subst hc
          exact sq.ends _ hrm c (List.mem_of_getElem? he)
        · rw [List.length_map, List.length_replicate]
          exact small1000 (by omega)
        · rw [upd_same, List.replicate_succ', List.map_append]
          rfl
      · refine ⟨dd, List.replicate (row.map eV).length true, rfl, SqL.of z3, _, rfl, ?_⟩
        have al : ∀ k, (List.replicate k true).all id = true := fun k => by simp
        rw [al]
        exact iteF ⟨_, _, rfl, z1⟩
    · subst e
      refine ⟨_, rfl, r, rfl, ⟨_, SqL.of (z1 _ _ hL.1)⟩, fun dd hd => lc_list (K := K) (a := r) (xs := as.map V.ref)
        (fun j H' => ∃ ls : List Addr, Same H H' ∧ H dd = none ∧ ls.length = j ∧ H' dd = some (.lst (ls.map V.ref)) ∧ (∀ l ∈ ls, l ≠ dd) ∧ ∀ (i : Nat) (l : Addr) (row : List (Option Int)), ls[i]? = some l → rows[i]? = some row → H' l = some (.tup (row.map eV)))
        ⟨[], z1.new hd, z1.free hd, rfl, upd_same, fun _ z => (by cases z), fun i l row z => (by cases z)⟩ (fun j H' _ ⟨_, z, _⟩ => SqL.of (z _ _ hL.1)) (fun j x H4 hx ⟨ls, z1, z2, z3, z4, z5, z6⟩ => ?_) (fun H4 ⟨ls, z1, z2, z3, z4, z5, z6⟩ => ?_)⟩
      · obtain ⟨ai, ha, rfl⟩ := map_item hx
        have hir : j < rows.length := by
          have := (List.getElem?_eq_some_iff.mp ha).1
          rw [← hL.2.1]; exact this
        have hrow : rows[j]? = some rows[j] := List.getElem?_eq_getElem hir
        generalize rows[j] = row at hrow
        have hai := z1 _ _ (hL.2.2 j ai row ha hrow)
        refine ⟨rfl, _, rfl, ai, _, rfl, .inl ⟨SqL.of hai, fun l hl => ?_⟩⟩
        have ndl : dd ≠ l := ne_of_none z4 hl
        refine ⟨_, by rw [upd_ne ndl]; exact z4, ?_, ls ++ [l], ?_, z2, ?_, ?_, ?_, ?_⟩
        · rw [List.length_map, z3]
          have := sq.len
          exact small1000 (by omega)
        · exact same_upd (z1.new hl) z2
        · rw [List.length_append, z3]; rfl
        · rw [upd_same, List.map_append]; rfl
        · intro l' hl'
          rcases List.mem_append.mp hl' with h | h
          · exact z5 l' h
          · rw [List.mem_singleton.mp h]; exact ndl.symm
        · intro i l' row' e1 e2
          by_cases hi : i < ls.length
          · rw [List.getElem?_append_left hi] at e1
            have h1 := z5 l' (List.mem_of_getElem? e1)
            have h2 := z6 i l' row' e1 e2
            rw [upd_ne h1, upd_ne (ne_of_none h2 hl)]
            exact h2
          · rw [List.getElem?_append_right (by omega)] at e1
            have hi' : i = ls.length := by
              have := (List.getElem?_eq_some_iff.mp e1).1
              simp at this
              omega
            subst hi'
            rw [Nat.sub_self] at e1
            cases e1
            rw [z3, hrow] at e2
            cases e2
            rw [upd_ne ndl.symm, upd_same]
      · refine ⟨dd, _, rfl, .inl ⟨SqL.of z4, fun l hl => ?_⟩⟩
        refine q _ l ls (z1.new hl) (z1.free hl) ⟨upd_same, by rw [z3, List.length_map, hL.2.1], fun i a row e1 e2 => ?_⟩
        have h := z6 i a row e1 e2
        rw [upd_ne (ne_of_none h hl)]
        exact h
abbrev scMIN : List Str := ["self", "rows", "told", "three"]
theorem scMI : FnScope scMIN ["self", "rows"] (defScope siMerger) := ⟨rfl, rfl, rfl, by decide +kernel, rfl, by decide +kernel, by decide +kernel⟩
theorem cr_ne : ¬ (("commands" : Str) = "rows") := by decide +kernel
theorem put_two (n r : V) : putF "rows" r (putF "commands" n []) = [(("commands" : Str), n), (("rows" : Str), r)] := by
  show (if ("commands" : Str) = "rows" then [(("commands" : Str), r)] else (("commands" : Str), n) :: putF "rows" r []) = _
  rw [if_neg cr_ne]
  rfl
theorem ok_init {f : Addr} {fd : FuncData} (F : MtP K "__init__" "Merger.__init__" siMerger f fd) (T : Txt K mg C) (G_check_rows : Keeps w K mg base CX0 "check_rows" 3 ["rows"] spCheckRows) (G_unsound_three : Keeps w K mg base CX0 "unsound_three" 2 ["rows"] spUnsoundThree) :
    FnOk Pg w K mg base CX0 4 f fd ["self", "rows"] (spInit C) := by
  refine F.ok scMI (fun vs H Q E h => ?_) fun cdv A outer s H vs Q E hr h => ?_
  · obtain ⟨m, dx, r, as, rows, n, rfl, _⟩ := h
    rfl
  · obtain ⟨m, dx, r, as, rows, n, rfl, hm, hL, sq, so, q⟩ := h
    suffices z : ∃ t, PSs (cxOf CX0 Pg w K mg base scMIN "Merger.__init__" (defScope siMerger) f cdv A outer s H E).nox (defBody siMerger) t ∧ t { nx := fun _ H' => Q .non H', rt := Q } (start scMIN [.ref m, .ref r]) H by
      obtain ⟨t, h1, h2⟩ := z
      exact ⟨t, h1.nox, h2⟩
    refine ⟨_, (pss_cons (ps_set (i := 2) scMI.nd rfl (Or.inl rfl) (pe_k G_check_rows rfl (hr.mono (by decide)) (by rfl) pass0 (pa_cons (pv 1) pa_nil)))
      (pss_cons (ps_set (i := 3) scMI.nd rfl (Or.inl rfl) (pe_k G_unsound_three rfl (hr.mono (by decide)) (by rfl) pass0 (pa_cons (pv 2) pa_nil)))
      (pss_cons (ps_if (pt_cmpR op_notN (pv 3) pe_non (nomark _)) (pss_one ps_never) pss_nil)
      (pss_cons (ps_fld (pv 0) (pe_callB (c_len K) (by rfl) T.len PySem.boot_len (pa_cons (pv 2) pa_nil)) rfl)
      (pss_one (ps_fld (pv 0) (pv 2) rfl)))))), ?_⟩
    refine ⟨_, rfl, r, as, rows, n, rfl, hL, sq, fun H1 p as' S1 hp hT => ?_⟩
    refine ⟨_, rfl, p, as', rows, n, rfl, hT, sq, so, fun H2 S2 => ?_⟩
    refine ⟨_, rfl, rfl, _, rfl, iteF ?_⟩
    have hm2 := S2 _ _ (S1 _ _ hm)
    have hT2 := hT.same S2
    refine ⟨_, rfl, p, _, rfl, .inr (SqT.of hT2.1), _, rfl, m, C, dx, [], rfl, hm2, T.cl, T.nC, by show 0 < 1000; decide, ?_⟩
    refine ⟨_, rfl, _, rfl, m, C, dx, _, rfl, upd_same, T.cl, T.nR, by show 1 < 1000; decide, ?_⟩
    rw [lenR sq hT2.2.1, put_two]
    have off : ∀ a o, a ≠ m → H2 a = some o → upd (upd H2 m (.ins C dx (putF "commands" (V.int (n : Nat)) []))) m (.ins C dx [(("commands" : Str), V.int (n : Nat)), (("rows" : Str), V.ref p)]) a = some o := fun a o ha e => by
      rw [upd_ne ha, upd_ne ha]; exact e
    have nm : ∀ a xs, H2 a = some (.tup xs) → a ≠ m := fun a xs e => ne_of e hm2 (by intro z; cases z)
    refine q _ (fun a o ha e => off a o ha (S2 _ _ (S1 _ _ e))) ⟨dx, p, as', upd_same, off _ _ (nm _ _ hT2.1) hT2.1, hT2.2.1, fun i a row e1 e2 => ?_⟩
    have h := hT2.2.2 i a row e1 e2
    exact off _ _ (nm _ _ h) h
end
end K7
end

section
-- K7Queue
set_option Elab.async false
set_option linter.all false
set_option maxRecDepth 100000
set_option maxHeartbeats 4000000
/-! queues: checked, folded by hand, place by place. -/
namespace K7
open PySem PySem.Spec PyProof.Rows L2
/-! ### fields, slices, sums of tuples -/
theorem fs_c {a b : V} : List.lookup ("commands" : Str) [(("commands" : Str), a), (("rows" : Str), b)] = some a := by simp [List.lookup]
theorem fs_r {a b : V} : List.lookup ("rows" : Str) [(("commands" : Str), a), (("rows" : Str), b)] = some b := by
  have h : (("rows" : Str) == ("commands" : Str)) = false := by decide +kernel
  simp [List.lookup, h]
theorem cut_take (xs : List V) {i : Int} (h : 0 ≤ i) : cutV xs none (some i) = xs.take i.toNat := by
  obtain ⟨k, rfl⟩ := Int.eq_ofNat_of_zero_le h
  unfold cutV
  rw [HT.sIx_none, HT.sIx_nat, List.drop_zero, Nat.sub_zero, Int.toNat_natCast]
  rcases Nat.le_total k xs.length with h1 | h1
  · rw [Nat.min_eq_left h1]
  · rw [Nat.min_eq_right h1, List.take_of_length_le (Nat.le_refl _), List.take_of_length_le h1]
theorem cut_drop (xs : List V) {i : Int} (h : 0 ≤ i) : cutV xs (some i) none = xs.drop i.toNat := by
  obtain ⟨k, rfl⟩ := Int.eq_ofNat_of_zero_le h
  unfold cutV
  rw [HT.sIx_none, HT.sIx_nat, Int.toNat_natCast]
  rcases Nat.le_total k xs.length with h1 | h1
  · rw [Nat.min_eq_left h1, List.take_of_length_le (by rw [List.length_drop]; omega)]
  · rw [Nat.min_eq_right h1, List.drop_of_length_le (Nat.le_refl _), List.drop_of_length_le h1, List.take_nil]
theorem cut_whole {xs : List V} {lo hi : Option Int} (h : HT.sIx xs.length 0 lo = 0 ∧ HT.sIx xs.length xs.length hi = xs.length) : cutV xs lo hi = xs := by
  unfold cutV
  rw [h.1, h.2, List.drop_zero, Nat.sub_zero, List.take_of_length_le (Nat.le_refl _)]
/-- a slice of a tuple: some tuple of that content -/
theorem sl_any {K : PySem.W.Frag} {H : Hp} {Q : VK} {a : Addr} {xs : List V} {lo hi : Option Int} (h : H a = some (.tup xs)) (q : ∀ p H', Same H H' → H' p = some (.tup (cutV xs lo hi)) → Q (.ref p) H') : rSlA K (.ref a) lo hi H Q :=
  ⟨a, xs, rfl, SqT.of h, fun z => q a H (Same.refl H) (by rw [cut_whole z]; exact h), fun _ p hp => q p _ (same_new hp) upd_same⟩
/-- t + u: some tuple of that content -/
theorem cat_any {K : PySem.W.Frag} {H : Hp} {Q : VK} {a b : Addr} {xs ys : List V} (h : H a = some (.tup xs)) (g : H b = some (.tup ys)) (hl : xs.length + ys.length ≤ sizeLine) (q : ∀ p H', Same H H' → H' p = some (.tup (xs ++ ys)) → Q (.ref p) H') : rCatA K (.ref a) (.ref b) H Q := by
  refine ⟨a, b, xs, ys, rfl, rfl, SqT.of h, SqT.of g, hl, fun z => q b H (Same.refl H) ?_, fun _ z => q a H (Same.refl H) ?_, fun _ _ p hp => q p _ (same_new hp) upd_same⟩
  · rw [z]; exact g
  · rw [z, List.append_nil]; exact h
theorem SeqH.get {H : Hp} {a : Addr} {xs : List V} (h : SeqH H a xs) : ∃ o, H a = some o := h.elim (fun z => ⟨_, z⟩) fun z => ⟨_, z⟩
theorem SeqH.stay {H H1 H2 : Hp} {a : Addr} {xs : List V} (h : SeqH H a xs) (s1 : Same H H1) (s2 : Same H H2) : H2 a = H1 a := by
  obtain ⟨o, e⟩ := h.get
  rw [s1 _ _ e, s2 _ _ e]
theorem SeqH.same {H H' : Hp} {a : Addr} {xs : List V} (h : SeqH H a xs) (s : Same H H') : SeqH H' a xs := h.elim (fun z => .inl (s _ _ z)) fun z => .inr (s _ _ z)
theorem SeqH.inj {H : Hp} {a : Addr} {xs ys : List V} (h : SeqH H a xs) (g : SeqH H a ys) : xs = ys := by
  rcases h with h | h <;> rcases g with g | g <;> rw [h] at g <;> cases g <;> rfl
theorem SeqH.kd {H : Hp} {a : Addr} {xs : List V} (h : SeqH H a xs) : Kd H (.ref a) := h.elim (fun z => .lst z) fun z => .tup z
theorem SeqH.sq {K : PySem.W.Frag} {H : Hp} {a : Addr} {xs : List V} (h : SeqH H a xs) : SqL K H a xs ∨ SqT K H a xs := h.elim (fun z => .inl (SqL.of z)) fun z => .inr (SqT.of z)
theorem iV_inj {p q : List Int} (h : iV p = iV q) : p = q := by
  have : ∀ (p q : List Int), iV p = iV q → p = q := by
    intro p
    induction p with
    | nil => intro q h; cases q with
      | nil => rfl
      | cons b q => cases h
    | cons a p ih => intro q h; cases q with
      | nil => cases h
      | cons b q =>
        have h1 : V.int a :: iV p = V.int b :: iV q := h
        injection h1 with h2 h3
        cases h2
        rw [ih q h3]
  exact this p q h
theorem all_com {n : Nat} {xs : List V} (hall : ∀ x ∈ xs, ∃ c, x = V.int c ∧ Com n c) : ∃ q, xs = iV q ∧ Que n q := by
  induction xs with
  | nil => exact ⟨[], rfl, fun c h => by cases h⟩
  | cons x xs ih =>
    obtain ⟨q, e1, e2⟩ := ih fun y hy => hall y (List.mem_cons_of_mem _ hy)
    obtain ⟨c, e3, e4⟩ := hall x (List.mem_cons_self ..)
    refine ⟨c :: q, ?_, fun d hd => ?_⟩
    · rw [e3, e1]; rfl
    · rcases List.mem_cons.mp hd with h | h
      · rw [h]; exact e4
      · exact e2 d h
/-- all values at a are told -/
def AllKd (H : Hp) (xs : List V) : Prop := ∀ x ∈ xs, Kd H x
theorem AllKd.same {H H' : Hp} {xs : List V} (h : AllKd H xs) (s : Same H H') : AllKd H' xs := fun x hx => (h x hx).same s
theorem allKd_iV {H : Hp} {q : List Int} : AllKd H (iV q) := fun x hx => by
  obtain ⟨i, _, rfl⟩ := List.mem_map.mp hx
  exact .int i
/-- v is no queue of commands below n: the error's place -/
def BadQ (H : Hp) (n : Nat) (v : V) (i : Int) : Prop :=
  (isS H v = false ∧ i = -1) ∨ (∃ a xs, v = .ref a ∧ SeqH H a xs ∧ 10000 < xs.length ∧ i = -1) ∨
    ∃ a xs k x, v = .ref a ∧ SeqH H a xs ∧ xs.length ≤ 10000 ∧ xs[k]? = some x ∧ isB x (n : Nat) = false ∧ (∀ j y, j < k → xs[j]? = some y → isB y (n : Nat) = true) ∧ i = (k : Nat)
def GoodQ (H : Hp) (n : Nat) (v : V) (q : List Int) : Prop := ∃ a, v = .ref a ∧ SeqH H a (iV q) ∧ Que n q ∧ q.length ≤ 10000
theorem GoodQ.uniq {H : Hp} {n : Nat} {v : V} {p q : List Int} (h : GoodQ H n v p) (g : GoodQ H n v q) : p = q := by
  obtain ⟨a, rfl, h1, _⟩ := h
  obtain ⟨b, e, g1, _⟩ := g
  cases e
  exact iV_inj (h1.inj g1)
theorem isB_com {n : Nat} {c : Int} (h : Com n c) : isB (.int c) (n : Nat) = true := by
  have := h.1
  have := h.2
  simp [isB, h.1, h.2]
theorem good_bad {H : Hp} {n : Nat} {v : V} {q : List Int} {i : Int} (h : GoodQ H n v q) (g : BadQ H n v i) : False := by
  obtain ⟨a, rfl, h1, h2, h3⟩ := h
  rcases g with ⟨g1, _⟩ | ⟨b, xs, e, g1, g2, _⟩ | ⟨b, xs, k, x, e, g1, g2, g3, g4, _⟩
  · cases g1
  · cases e
    have := h1.inj g1
    subst this
    unfold iV at g2
    rw [List.length_map] at g2
    omega
  · cases e
    have := h1.inj g1
    subst this
    obtain ⟨c, hc, rfl⟩ := map_item g3
    rw [isB_com (h2.get hc)] at g4
    cases g4
theorem BadQ.uniq {H : Hp} {n : Nat} {v : V} {i j : Int} (h : BadQ H n v i) (g : BadQ H n v j) : i = j := by
  rcases h with ⟨h1, rfl⟩ | ⟨a, xs, rfl, h1, h2, rfl⟩ | ⟨a, xs, k, x, rfl, h1, h2, h3, h4, h5, rfl⟩
  · rcases g with ⟨_, rfl⟩ | ⟨b, ys, rfl, _⟩ | ⟨b, ys, l, y, rfl, _⟩
    · rfl
    · cases h1
    · cases h1
  · rcases g with ⟨g1, _⟩ | ⟨b, ys, e, g1, g2, rfl⟩ | ⟨b, ys, l, y, e, g1, g2, _⟩
    · cases g1
    · rfl
    · cases e
      have := h1.inj g1
      subst this
      omega
  · rcases g with ⟨g1, _⟩ | ⟨b, ys, e, g1, g2, rfl⟩ | ⟨b, ys, l, y, e, g1, g2, g3, g4, g5, rfl⟩
    · cases g1
    · cases e
      have := h1.inj g1
      subst this
      omega
    · cases e
      have := h1.inj g1
      subst this
      have lt1 : ¬ k < l := fun z => by
        have := g5 k x z h3
        rw [h4] at this; cases this
      have lt2 : ¬ l < k := fun z => by
        have := h5 l y z g3
        rw [g4] at this; cases this
      have : k = l := by omega
      rw [this]
theorem BadQ.same {H H' : Hp} {n : Nat} {v : V} {i : Int} (h : BadQ H n v i) (s : Same H H') : BadQ H' n v i := by
  rcases h with ⟨h1, rfl⟩ | ⟨a, xs, rfl, h1, h2, rfl⟩ | ⟨a, xs, k, x, rfl, h1, h2, h3, h4, h5, rfl⟩
  · left
    refine ⟨?_, rfl⟩
    cases v <;> exact h1
  · exact .inr (.inl ⟨a, xs, rfl, h1.same s, h2, rfl⟩)
  · exact .inr (.inr ⟨a, xs, k, x, rfl, h1.same s, h2, h3, h4, h5, rfl⟩)
/-- an own error of the class at CE, at v, flies -/
def Flies (CE : Addr) (H : Hp) (E : XK) (v : V) : Prop := ∀ H' d, Same H H' → H d = none → H' d = some (atF v) → E (.ref CE) (some d) H'
theorem Flies.go {CE : Addr} {H H1 : Hp} {E : XK} {v : V} (h : Flies CE H E v) (s : Same H H1) : ∀ d, H1 d = none → E (.ref CE) (some d) (upd H1 d (atF v)) := fun d hd => h _ d (s.new hd) (s.free hd) upd_same
theorem Flies.same {CE : Addr} {H H1 : Hp} {E : XK} {v : V} (h : Flies CE H E v) (s : Same H H1) : Flies CE H1 E v := fun H' d s' hd e => h H' d (s.trans s') (s.free hd) e
/-! ### promises -/
def spCQ0 (C CQ : Addr) : Sp := fun vs H Q E => ∃ (m : Addr) (n : Nat) (rows : Rw) (v : V), vs = [.ref m, v] ∧ Mg C H m n rows ∧ Kd H v ∧ (∀ a xs, v = .ref a → SeqH H a xs → AllKd H xs) ∧
  (∀ q H' p, GoodQ H n v q → Same H H' → H' p = some (.tup (iV q)) → Q (.ref p) H') ∧ ∀ i, BadQ H n v i → Flies CQ H E (.int i)
def spCheckQueue (C CQ : Addr) : Sp := fun vs H Q E => ∃ (m : Addr) (n : Nat) (rows : Rw) (v : V), vs = [.ref m, v] ∧ Mg C H m n rows ∧
  ((∃ q, GoodQ H n v q ∧ ∀ H' p, Same H H' → H' p = some (.tup (iV q)) → Q (.ref p) H') ∨ ∃ i, BadQ H n v i ∧ Kd H v ∧ (∀ a xs, v = .ref a → SeqH H a xs → AllKd H xs) ∧ Flies CQ H E (.int i))
theorem cq_imp {C CQ : Addr} : ∀ vs H Q E, spCheckQueue C CQ vs H Q E → spCQ0 C CQ vs H Q E := by
  rintro vs H Q E ⟨m, n, rows, v, e, hM, ⟨q, hg, k⟩ | ⟨i, hb, hk, ha, k⟩⟩
  · refine ⟨m, n, rows, v, e, hM, ?_, fun a xs ev hs => ?_, fun q' H' p hg' s hp => k H' p s (by rw [hg.uniq hg']; exact hp), fun i hb => (good_bad hg hb).elim⟩
    · obtain ⟨a, rfl, h1, _⟩ := hg
      exact h1.kd
    · obtain ⟨b, rfl, h1, _⟩ := hg
      cases ev
      rw [hs.inj h1]
      exact allKd_iV
  · exact ⟨m, n, rows, v, e, hM, hk, ha, fun q H' p hg => (good_bad hg hb).elim, fun j hj => by rw [hj.uniq hb]; exact k⟩
section
variable {w : World} {K : PySem.W.Frag} {mg : Str → Option Value} {base : Heap} {C CQ CW CR : Addr}
abbrev scCQN : List Str := ["merger", "value", "at", "command"]
theorem scCQ : FnScope scCQN ["merger", "value"] (defScope sCheckQueue) := ⟨rfl, rfl, rfl, by decide +kernel, rfl, by decide +kernel, by decide +kernel⟩
theorem ok_checkQueue0 (D : DefAt K mg "check_queue" sCheckQueue) (T : Txt K mg C) (eQ : ErrAt K mg "BadQueue" CQ) (G_is_sequence : Keeps w K mg base CX0 "is_sequence" 1 ["value"] spIsSequence) (G_is_below : Keeps w K mg base CX0 "is_below" 3 ["value", "most"] spIsBelow) :
    KeepsR w K mg base (L2.CX Pg w) "check_queue" 4 ["merger", "value"] (spCQ0 C CQ) := by
  refine keepsX D scCQ (fun vs H Q E h => ?_) (fun _ _ _ _ _ _ us hl => match us, hl with | [_, _], _ => rfl) (fun _ _ _ _ _ _ us hl => match us, hl with | [_, _], _ => rfl) fun f cdv A outer s H vs Q E hr h => ?_
  · obtain ⟨m, n, rows, v, rfl, _⟩ := h
    rfl
  · obtain ⟨m, n, rows, v, rfl, hM, hk, hal, good, bad⟩ := h
    obtain ⟨_, gMOST_QUEUE⟩ := T.cMOST_QUEUE
    obtain ⟨_, eBadQueue⟩ := eQ
    refine ⟨_, (pss_cons (ps_if (PW.pt (pw_or (pt_not (pt_val (pe_k G_is_sequence rfl (hr.mono (by decide)) (by rfl) pass0 (pa_cons (pv 1) pa_nil)))) (pw_or1 (pt_cmpR op_gt (pe_callB (c_len K) (by rfl) T.len PySem.boot_len (pa_cons (pv 1) pa_nil)) (pe_glob (v := .int (10000)) rfl gMOST_QUEUE ⟨_, rfl⟩) (nomark _))))) (pss_one (ps_raiseErr rfl eBadQueue hr (takes_of rfl rfl rfl rfl) (pa_cons (pe_un un_neg pe_int) pa_nil))) pss_nil)
      (pss_cons (ps_for PassesOwn.leaving rfl (pi_enumW (by rfl) T.enumerate (pa_cons (pv 1) pa_nil)) (pg_tup (by rfl) (pgs_cons (pg_name (i := 2) scCQ.nd rfl (Or.inl rfl)) (pgs_cons (pg_name (i := 3) scCQ.nd rfl (Or.inl rfl)) pgs_nil))) (pss_one (ps_if (pt_not (pt_val (pe_k G_is_below rfl (hr.mono (by decide)) (by rfl) pass0 (pa_cons (pv 3) (pa_cons (pe_fld (pv 0) rfl) pa_nil))))) (pss_one (ps_raiseErr rfl eBadQueue hr (takes_of rfl rfl rfl rfl) (pa_cons (pv 2) pa_nil))) pss_nil)))
      (pss_one (ps_ret (pe_callTy (c_tuple K) (by rfl) T.tuple boot_tuple (pa_cons (pv 1) pa_nil)))))), ?_⟩
    have hM' := hM
    obtain ⟨dx, r, as, hm, hT⟩ := hM'
    refine ⟨_, rfl, v, rfl, hk, fun p cs hp => ⟨_, rfl, ?_⟩⟩
    have S0 : Same H (upd H p (.tup cs)) := same_new hp
    generalize upd H p (.tup cs) = H0 at S0
    have raise1 : ∀ (H1 : Hp), Same H H1 → BadQ H n v (-1) → ∀ d, H1 d = none → E (.ref CQ) (some d) (upd H1 d (atF (.int (-1)))) := fun H1 s1 hb => (bad _ hb).go s1
    cases hs : isS H v with
    | false => exact iteT (iteT ⟨_, rfl, _, rfl, raise1 _ S0 (.inl ⟨hs, rfl⟩)⟩)
    | true =>
      refine iteF ?_
      obtain ⟨a, xs, rfl, hx⟩ : ∃ a xs, v = .ref a ∧ SeqH H a xs := by
        cases hk with
        | lst e => exact ⟨_, _, rfl, .inl e⟩
        | tup e => exact ⟨_, _, rfl, .inr e⟩
        | _ => cases hs
      have hka := hal a xs rfl hx
      refine ⟨_, rfl, a, xs, rfl, (hx.same S0).sq, _, _, rfl, rfl, _, rfl, ?_⟩
      refine ite2 (fun hlen => ?_) (fun hlen => ?_)
      · exact ⟨_, rfl, _, rfl, raise1 _ S0 (.inr (.inl ⟨a, xs, rfl, hx, by have := of_decide_eq_true hlen; omega, rfl⟩))⟩
      · have h10 : xs.length ≤ 10000 := by
          by_cases z : xs.length ≤ 10000
          · exact z
          · exact (hlen (decide_eq_true (by omega))).elim
        have hx0 := hx.same S0
        refine ⟨_, rfl, a, xs, rfl, hx0, fun J wJ => for_it wJ (fun i σ H' => (∃ c d, σ = [some (.ref m), some (.ref a), c, d]) ∧ Same H H' ∧ (∀ j y, j < i → xs[j]? = some y → isB y (n : Nat) = true))
          ⟨⟨_, _, rfl⟩, S0, fun j y hj => absurd hj (Nat.not_lt_zero _)⟩ (fun i σ H' _ z => hx.stay S0 z.2.1) (fun i x σ H1 H1' hi ⟨⟨c, d, eσ⟩, z1, zj⟩ y => ?_) fun σ H1 ⟨⟨c, d, eσ⟩, z1, zj⟩ => ?_⟩
        · subst eσ
          obtain ⟨t, u, x, rfl, ht, rfl, e1, e2⟩ := y
          have e1' : u = .int (i : Nat) := (Option.some.inj e1).symm
          subst e1'
          have e2 : xs[i]? = some x := e2
          have S1 : Same H (upd H1 t (.tup [.int (i : Nat), x])) := z1.new ht
          have T1 : (upd H1 t (.tup [.int (i : Nat), x])) t = some (.tup [.int (i : Nat), x]) := upd_same
          generalize upd H1 t (.tup [.int (i : Nat), x]) = H2 at S1 T1
          refine ⟨t, _, rfl, SqT.of T1, rfl, _, _, rfl, _, _, rfl, rfl, ?_⟩
          refine ⟨_, rfl, _, rfl, m, C, dx, _, _, rfl, S1 _ _ hm, T.cl, T.nC, fs_c, x, _, rfl, (hka x (List.mem_of_getElem? e2)).same S1, _, rfl, ?_⟩
          cases hb : isB x (n : Nat) with
          | true =>
            refine iteF ⟨⟨_, _, rfl⟩, S1, fun j y hj hy => ?_⟩
            by_cases hji : j < i
            · exact zj j y hji hy
            · have : j = i := by omega
              subst this
              rw [e2] at hy
              cases hy
              exact hb
          | false => exact iteT ⟨_, rfl, _, rfl, (bad _ (.inr (.inr ⟨a, xs, i, x, rfl, hx, h10, e2, hb, zj, rfl⟩))).go S1⟩
        · subst eσ
          have hall : ∀ x ∈ xs, ∃ c, x = V.int c ∧ Com n c := fun x hx => by
            obtain ⟨j, hj⟩ := List.mem_iff_getElem?.mp hx
            obtain ⟨c, e, h1, h2⟩ := isB_iff.mp (zj j x (lt_of hj) hj)
            exact ⟨c, e, h1, h2⟩
          obtain ⟨q, rfl, hq⟩ := all_com hall
          have hg : GoodQ H n (.ref a) q := ⟨a, rfl, hx, hq, by unfold iV at h10; rw [List.length_map] at h10; exact h10⟩
          refine ⟨_, rfl, a, iV q, rfl, ?_⟩
          rcases hx with hx' | hx'
          · exact .inl ⟨SqL.of (z1 _ _ hx'), fun l hl => good q _ l hg (z1.new hl) upd_same⟩
          · exact .inr ⟨SqT.of (z1 _ _ hx'), good q _ a hg z1 (z1 _ _ hx')⟩
theorem ok_checkQueue (D : DefAt K mg "check_queue" sCheckQueue) (T : Txt K mg C) (eQ : ErrAt K mg "BadQueue" CQ) (G_is_sequence : Keeps w K mg base CX0 "is_sequence" 1 ["value"] spIsSequence) (G_is_below : Keeps w K mg base CX0 "is_below" 3 ["value", "most"] spIsBelow) :
    Keeps w K mg base (L2.CX Pg w) "check_queue" 4 ["merger", "value"] (spCheckQueue C CQ) := by
  obtain ⟨f, fd, h1, h2, h3, _, h5⟩ := (ok_checkQueue0 (w := w) (base := base) D T eQ G_is_sequence G_is_below).ex
  exact ⟨f, fd, h1, h2, h3, h5.imp cq_imp⟩
end
end K7
end

section
-- K7Way
set_option Elab.async false
set_option linter.all false
set_option maxRecDepth 100000
set_option maxHeartbeats 4000000
/-! queues folded by hand, place by place. -/
namespace K7
open PySem PySem.Spec PyProof.Rows L2
/-- can a value be a place of a merge? -/
def canB (rows : Rw) (q : List Int) : V → Bool
  | .int i => decide (0 ≤ i) && decide (i < (q.length : Int) - 1) && (nb rows q i.toNat).isSome
  | _ => false
theorem canB_nat {rows : Rw} {q : List Int} {i : Nat} : canB rows q (.int (i : Nat)) = true ↔ Can rows q i := by
  unfold canB Can
  simp only [Bool.and_eq_true, decide_eq_true_eq, Int.toNat_natCast]
  constructor
  · rintro ⟨⟨_, h⟩, h2⟩
    exact ⟨by omega, fun z => by rw [z] at h2; cases h2⟩
  · rintro ⟨h, h2⟩
    exact ⟨⟨by omega, by omega⟩, by cases z : nb rows q i with
      | none => exact absurd z h2
      | some e => rfl⟩
theorem canB_int {rows : Rw} {q : List Int} {v : V} (h : canB rows q v = true) : ∃ i : Nat, v = .int (i : Nat) ∧ Can rows q i := by
  cases v with
  | int i =>
    have h' := h
    unfold canB at h'
    simp only [Bool.and_eq_true, decide_eq_true_eq] at h'
    obtain ⟨k, rfl⟩ := Int.eq_ofNat_of_zero_le h'.1.1
    exact ⟨k, rfl, canB_nat.mp h⟩
  | _ => cases h
def spCanFold : Sp := fun vs H Q _ => ∃ (r t : Addr) (as : List Addr) (rows : Rw) (n : Nat) (q : List Int) (v : V), vs = [.ref r, .ref t, v] ∧ RT H r as rows ∧ Sq rows n ∧ H t = some (.tup (iV q)) ∧ Que n q ∧ Kd H v ∧ Q (.bl (canB rows q v)) H
def spFoldedOnce : Sp := fun vs H Q _ => ∃ (r t : Addr) (as : List Addr) (rows : Rw) (n : Nat) (q : List Int) (i : Nat), vs = [.ref r, .ref t, .int (i : Nat)] ∧ RT H r as rows ∧ Sq rows n ∧ H t = some (.tup (iV q)) ∧ Que n q ∧ q.length ≤ 10000 ∧ Can rows q i ∧
  ∀ H' p, Same H H' → H' p = some (.tup (iV (once rows q i))) → Q (.ref p) H'
/-- a queue that is bad: what is asked of it, and that it is told -/
def BadV (H : Hp) (n : Nat) (v : V) (i : Int) : Prop := BadQ H n v i ∧ Kd H v ∧ ∀ a xs, v = .ref a → SeqH H a xs → AllKd H xs
def spFoldAt (C CQ CR : Addr) : Sp := fun vs H Q E => ∃ (m : Addr) (n : Nat) (rows : Rw) (v p : V), vs = [.ref m, v, p] ∧ Mg C H m n rows ∧ Sq rows n ∧
  ((∃ q, GoodQ H n v q ∧ Kd H p ∧ (∀ i : Nat, p = .int (i : Nat) → Can rows q i → ∀ H' t, Same H H' → H' t = some (.tup (iV (once rows q i))) → Q (.ref t) H') ∧ (canB rows q p = false → Flies CR H E p)) ∨
    ∃ i, BadV H n v i ∧ Flies CQ H E (.int i))
def spWayEnd (C CQ CW : Addr) : Sp := fun vs H Q E => ∃ (m : Addr) (n : Nat) (rows : Rw) (v y : V), vs = [.ref m, v, y] ∧ Mg C H m n rows ∧ Sq rows n ∧
  ((∃ q, GoodQ H n v q ∧ Kd H y ∧ ((isS H y = false ∧ Flies CW H E (.int (-1))) ∨
      ∃ a w rest, y = .ref a ∧ SeqH H a (nV w ++ rest) ∧ AllKd H rest ∧ WayOk rows q w ∧ (rest = [] → ∀ H' t, Same H H' → H' t = some (.tup (iV (wayEnd rows q w))) → Q (.ref t) H') ∧
        ∀ x xs, rest = x :: xs → canB rows (wayEnd rows q w) x = false ∧ Flies CW H E (.int (w.length : Nat)))) ∨
    ∃ i, BadV H n v i ∧ Flies CQ H E (.int i))
section
variable {w : World} {K : PySem.W.Frag} {mg : Str → Option Value} {base : Heap} {C CQ CW CR : Addr}
theorem iV_at {q : List Int} {i : Nat} (h : i < q.length) : atI (iV q) ((i : Nat) : Int) = some (.int (q.getD i 0)) := by
  refine atI_nat ?_
  unfold iV
  rw [List.getElem?_map, List.getElem?_eq_getElem h, List.getD_eq_getElem?_getD, List.getElem?_eq_getElem h]
  rfl
abbrev scCFN : List Str := ["rows", "queue", "place"]
theorem scCF : FnScope scCFN ["rows", "queue", "place"] (defScope sCanFold) := ⟨rfl, rfl, rfl, by decide +kernel, rfl, by decide +kernel, by decide +kernel⟩
theorem ok_canFold (D : DefAt K mg "can_fold" sCanFold) (T : Txt K mg C) (G_is_below : Keeps w K mg base CX0 "is_below" 3 ["value", "most"] spIsBelow) : Keeps w K mg base CX0 "can_fold" 4 ["rows", "queue", "place"] spCanFold := by
  refine keeps0 D scCF (fun vs H Q E h => ?_) (fun _ _ _ _ _ _ us hl => match us, hl with | [_, _, _], _ => rfl) fun f cdv A outer s H vs Q E hr h => ?_
  · obtain ⟨r, t, as, rows, n, q, v, rfl, _⟩ := h
    rfl
  · obtain ⟨r, t, as, rows, n, q, v, rfl, hT, sq, ht, hq, hk, k⟩ := h
    refine ⟨_, (pss_one (ps_ret (pe_and (pe_k G_is_below rfl (hr.mono (by decide)) (by rfl) pass0 (pa_cons (pv 2) (pa_cons (pe_op op_sub (pe_callB (c_len K) (by rfl) T.len PySem.boot_len (pa_cons (pv 1) pa_nil)) pe_int) pa_nil))) (pe_one (pe_cmpR op_notN (pe_ix ix_tup (pe_ix ix_tup (pv 0) (pe_ix ix_tup (pv 1) (pv 2) (fun _ _ => rfl)) (fun _ _ => rfl)) (pe_ix ix_tup (pv 1) (pe_op op_add (pv 2) pe_int) (fun _ _ => rfl)) (fun _ _ => rfl)) pe_non (nomark _)))))), ?_⟩
    refine ⟨_, rfl, _, rfl, t, _, rfl, .inr (SqT.of ht), _, _, rfl, rfl, v, _, rfl, hk, ?_⟩
    have el : (((iV q).length : Nat) : Int) = (q.length : Int) := by unfold iV; rw [List.length_map]
    rw [el]
    cases hb : isB v ((q.length : Int) - 1) with
    | false =>
      have e : canB rows q v = false := by
        cases v with
        | int i =>
          have z : (decide (0 ≤ i) && decide (i < (q.length : Int) - 1)) = false := hb
          show ((decide (0 ≤ i) && decide (i < (q.length : Int) - 1)) && (nb rows q i.toNat).isSome) = false
          rw [z]; rfl
        | _ => rfl
      rw [e] at k
      exact ⟨_, rfl, iteF k⟩
    | true =>
      obtain ⟨i, rfl, h0, h1⟩ := isB_iff.mp hb
      obtain ⟨j, rfl⟩ := Int.eq_ofNat_of_zero_le h0
      have hj1 : j < q.length := by omega
      have hj2 : j + 1 < q.length := by omega
      have c1 := hq.getD hj1
      have c2 := hq.getD hj2
      obtain ⟨p1, w1, f1, f2, f3, _⟩ := hT.get sq c1 c2
      have e : canB rows q (.int (j : Nat)) = (!decide (eV (rows.at (q.getD j 0) (q.getD (j + 1) 0)) = V.non)) := by
        have : (decide ((0 : Int) ≤ (j : Nat)) && decide (((j : Nat) : Int) < (q.length : Int) - 1)) = true := hb
        show ((decide ((0 : Int) ≤ (j : Nat)) && decide (((j : Nat) : Int) < (q.length : Int) - 1)) && (nb rows q j).isSome) = _
        rw [this, Bool.true_and]
        rw [eV_non]
        unfold nb
        cases rows.at (q.getD j 0) (q.getD (j + 1) 0) <;> rfl
      rw [e] at k
      refine ⟨_, rfl, iteT ?_⟩
      refine ⟨_, rfl, _, rfl, _, rfl, t, _, _, _, rfl, rfl, SqT.of ht, iV_at hj1, r, _, _, _, rfl, rfl, SqT.of hT.1, f1, _, rfl, _, rfl, _, _, rfl, rfl, t, _, _, _, rfl, rfl, SqT.of ht, iV_at hj2, p1, _, _, _, rfl, rfl, SqT.of f2, f3, rfl, ?_⟩
      exact k
theorem map_take_iV (q : List Int) (i : Nat) : (iV q).take i = iV (q.take i) := by unfold iV; rw [List.map_take]
theorem map_drop_iV (q : List Int) (i : Nat) : (iV q).drop i = iV (q.drop i) := by unfold iV; rw [List.map_drop]
theorem iV_len (q : List Int) : (iV q).length = q.length := by unfold iV; rw [List.length_map]
theorem iV_app (p q : List Int) : iV (p ++ q) = iV p ++ iV q := by unfold iV; rw [List.map_append]
theorem mid_any {tc : TT} {σ : L2.St} {H : Hp} {Q : VK} {e : Int} (hs : σ[3]? = some (some (.int e))) (htc : ∀ R : Bool → Hp → Prop, R (decide (e = -1)) H → tc σ H R)
    (q : ∀ pm Hm, Same H Hm → Hm pm = some (.tup (iV (goL (some e)))) → Q (.ref pm) Hm) : tIf tc (tTup tNil) (tTup (tCons (tVar 3) tNil)) σ H Q := by
  refine htc _ (ite2 (fun h => ?_) (fun h => ?_))
  · have h' : e = -1 := of_decide_eq_true h
    subst h'
    exact ⟨Nat.zero_le _, fun p hp => q p _ (same_new hp) upd_same⟩
  · have h' : e ≠ -1 := fun z => h (decide_eq_true z)
    refine ⟨_, hs, by show 1 ≤ sizeLine; decide, fun p hp => q p _ (same_new hp) ?_⟩
    rw [upd_same]
    have z : goL (some e) = [e] := if_neg h'
    rw [z]
    rfl
abbrev scFON : List Str := ["rows", "queue", "place", "end"]
theorem scFO : FnScope scFON ["rows", "queue", "place"] (defScope sFoldedOnce) := ⟨rfl, rfl, rfl, by decide +kernel, rfl, by decide +kernel, by decide +kernel⟩
theorem ok_foldedOnce (D : DefAt K mg "folded_once" sFoldedOnce) (T : Txt K mg C) : Keeps w K mg base CX0 "folded_once" 1 ["rows", "queue", "place"] spFoldedOnce := by
  refine keeps0 D scFO (fun vs H Q E h => ?_) (fun _ _ _ _ _ _ us hl => match us, hl with | [_, _, _], _ => rfl) fun f cdv A outer s H vs Q E hr h => ?_
  · obtain ⟨r, t, as, rows, n, q, v, rfl, _⟩ := h
    rfl
  · obtain ⟨r, t, as, rows, n, q, j, rfl, hT, sq, ht, hq, hlen, hc, k⟩ := h
    obtain ⟨_, gGONE⟩ := T.cGONE
    refine ⟨_, (pss_cons (ps_set (i := 3) scFO.nd rfl (Or.inl rfl) (pe_ix ix_tup (pe_ix ix_tup (pv 0) (pe_ix ix_tup (pv 1) (pv 2) (fun _ _ => rfl)) (fun _ _ => rfl)) (pe_ix ix_tup (pv 1) (pe_op op_add (pv 2) pe_int) (fun _ _ => rfl)) (fun _ _ => rfl)))
      (pss_one (ps_ret (pe_op op_catA (pe_op op_catA (pe_slice sl_tupA (pv 1) po_none (po_some (pv 2))) (pe_ifExp (pt_cmpR op_eq (pv 3) (pe_glob (v := .int (-1)) rfl gGONE ⟨_, rfl⟩) (nomark _)) (pe_tup pa_nil) (pe_tup (pa_cons (pv 3) pa_nil)))) (pe_slice sl_tupA (pv 1) (po_some (pe_op op_add (pv 2) pe_int)) po_none))))), ?_⟩
    have hj1 : j < q.length := by have := hc.1; omega
    have hj2 := hc.1
    have c1 := hq.getD hj1
    have c2 := hq.getD hj2
    obtain ⟨p1, w1, f1, f2, f3, _⟩ := hT.get sq c1 c2
    obtain ⟨e, he⟩ : ∃ e, nb rows q j = some e := by
      cases z : nb rows q j with
      | none => exact absurd z hc.2
      | some e => exact ⟨e, rfl⟩
    have he' : rows.at (q.getD j 0) (q.getD (j + 1) 0) = some e := he
    rw [he'] at f3
    refine ⟨_, rfl, _, rfl, _, rfl, t, _, _, _, rfl, rfl, SqT.of ht, iV_at hj1, r, _, _, _, rfl, rfl, SqT.of hT.1, f1, _, rfl, _, rfl, _, _, rfl, rfl, t, _, _, _, rfl, rfl, SqT.of ht, iV_at hj2, p1, _, _, _, rfl, rfl, SqT.of f2, f3, ?_⟩
    have zj : (0 : Int) ≤ (j : Nat) := by omega
    -- queue[:place]
    refine ⟨_, rfl, _, rfl, _, rfl, sl_any ht fun pa Ha Sa ea => ?_⟩
    rw [cut_take _ zj, Int.toNat_natCast, map_take_iV] at ea
    refine mid_any (e := e) rfl (fun R h => ⟨_, rfl, rfl, _, rfl, by rw [show decide (eV (some e) = V.int (-1)) = decide (e = -1) by simp [eV]]; exact h⟩) fun pm Hm Sm em => ?_
    have lg : (iV (goL (some e))).length ≤ 1 := by
      rw [iV_len]
      by_cases z : e = -1
      · rw [show goL (some e) = [] from if_pos z]; exact Nat.zero_le _
      · rw [show goL (some e) = [e] from if_neg z]; exact Nat.le_refl _
    refine cat_any (Sm _ _ ea) em (by rw [iV_len, List.length_take]; show _ ≤ 16777216; omega) fun pb Hb Sb eb => ?_
    refine ⟨_, rfl, _, rfl, _, _, rfl, rfl, _, rfl, ?_⟩
    have S3 : Same H Hb := (Sa.trans Sm).trans Sb
    unfold tNoPart
    refine sl_any (S3 _ _ ht) fun pc Hc Sc ec => ?_
    rw [cut_drop _ (by omega : (0 : Int) ≤ ((j : Nat) : Int) + 2), show (((j : Nat) : Int) + 2).toNat = j + 2 by omega, map_drop_iV] at ec
    refine cat_any (Sc _ _ eb) ec ?_ fun pd Hd Sd ed => ?_
    · rw [iV_len] at lg
      rw [List.length_append, iV_len, iV_len, iV_len, List.length_take, List.length_drop]
      show _ ≤ 16777216; omega
    · refine k Hd pd ((S3.trans Sc).trans Sd) ?_
      rw [ed]
      unfold once
      rw [he, iV_app, iV_app, List.append_assoc]
abbrev scFAN : List Str := ["merger", "queue", "place", "told"]
theorem scFA : FnScope scFAN ["merger", "queue", "place"] (defScope sFoldAt) := ⟨rfl, rfl, rfl, by decide +kernel, rfl, by decide +kernel, by decide +kernel⟩
theorem ok_foldAt (D : DefAt K mg "fold_at" sFoldAt) (T : Txt K mg C) (eR : ErrAt K mg "Refused" CR) (G_check_queue : Keeps w K mg base (L2.CX Pg w) "check_queue" 4 ["merger", "value"] (spCheckQueue C CQ)) (G_can_fold : Keeps w K mg base CX0 "can_fold" 4 ["rows", "queue", "place"] spCanFold)
    (G_folded_once : Keeps w K mg base CX0 "folded_once" 1 ["rows", "queue", "place"] spFoldedOnce) : KeepsR w K mg base (L2.CX Pg w) "fold_at" 5 ["merger", "queue", "place"] (spFoldAt C CQ CR) := by
  refine keepsX D scFA (fun vs H Q E h => ?_) (fun _ _ _ _ _ _ us hl => match us, hl with | [_, _, _], _ => rfl) (fun _ _ _ _ _ _ us hl => match us, hl with | [_, _, _], _ => rfl) fun f cdv A outer s H vs Q E hr h => ?_
  · obtain ⟨m, n, rows, v, p, rfl, _⟩ := h
    rfl
  · obtain ⟨m, n, rows, v, p, rfl, hM, sq, h⟩ := h
    obtain ⟨_, eRefused⟩ := eR
    refine ⟨_, (pss_cons (ps_set (i := 3) scFA.nd rfl (Or.inl rfl) (pe_k G_check_queue rfl (hr.mono (by decide)) (by rfl) (passes_call (takes_of rfl rfl rfl rfl) (fun _ _ _ _ h => h)) (pa_cons (pv 0) (pa_cons (pv 1) pa_nil))))
      (pss_cons (ps_if (pt_not (pt_val (pe_k G_can_fold rfl (hr.mono (by decide)) (by rfl) pass0 (pa_cons (pe_fld (pv 0) rfl) (pa_cons (pv 3) (pa_cons (pv 2) pa_nil)))))) (pss_one (ps_raiseErr rfl eRefused hr (takes_of rfl rfl rfl rfl) (pa_cons (pv 2) pa_nil))) pss_nil)
      (pss_one (ps_ret (pe_k G_folded_once rfl (hr.mono (by decide)) (by rfl) pass0 (pa_cons (pe_fld (pv 0) rfl) (pa_cons (pv 3) (pa_cons (pv 2) pa_nil)))))))), ?_⟩
    rcases h with ⟨q, hg, hk, good, bad⟩ | ⟨i, hb, fl⟩
    · refine ⟨_, rfl, _, rfl, m, n, rows, v, rfl, hM, .inl ⟨q, hg, fun H1 t S1 ht => ?_⟩⟩
      have hM1 := hM.same S1
      obtain ⟨dx, r, as, hm, hT⟩ := hM1
      obtain ⟨_, _, _, hq, hl⟩ := hg
      refine ⟨_, rfl, m, C, dx, _, _, rfl, hm, T.cl, T.nR, fs_r, _, rfl, _, rfl, r, t, as, rows, n, q, p, rfl, hT, sq, ht, hq, hk.same S1, _, rfl, ?_⟩
      cases hc : canB rows q p with
      | false => exact iteT ⟨_, rfl, _, rfl, (bad hc).go S1⟩
      | true =>
        obtain ⟨i, rfl, can⟩ := canB_int hc
        refine iteF ⟨_, rfl, m, C, dx, _, _, rfl, hm, T.cl, T.nR, fs_r, _, rfl, _, rfl, r, t, as, rows, n, q, i, rfl, hT, sq, ht, hq, hl, can, fun H2 u S2 hu => ?_⟩
        exact good i rfl can H2 u (S1.trans S2) hu
    · exact ⟨_, rfl, _, rfl, m, n, rows, v, rfl, hM, .inr ⟨i, hb.1, hb.2.1, hb.2.2, fl⟩⟩
theorem wayOk_take {rows : Rw} : ∀ {q : List Int} {w : List Nat} (k : Nat), WayOk rows q w → WayOk rows q (w.take k)
  | q, [], k, h => by rw [List.take_nil]; exact h
  | q, i :: w, 0, h => trivial
  | q, i :: w, k + 1, h => ⟨h.1, wayOk_take k h.2⟩
theorem wayOk_at {rows : Rw} : ∀ {q : List Int} {w : List Nat} {k i : Nat}, WayOk rows q w → w[k]? = some i → Can rows (wayEnd rows q (w.take k)) i
  | q, j :: w, 0, i, h, e => by cases e; exact h.1
  | q, j :: w, k + 1, i, h, e => wayOk_at (q := once rows q j) (w := w) h.2 e
theorem wayEnd_step {rows : Rw} {q : List Int} {w : List Nat} {k i : Nat} (e : w[k]? = some i) : wayEnd rows q (w.take (k + 1)) = once rows (wayEnd rows q (w.take k)) i := by
  rw [List.take_add_one, e]
  exact wayEnd_snoc rows q (w.take k) i
abbrev scWEN : List Str := ["merger", "queue", "way", "told", "at", "place"]
theorem scWE : FnScope scWEN ["merger", "queue", "way"] (defScope sWayEnd) := ⟨rfl, rfl, rfl, by decide +kernel, rfl, by decide +kernel, by decide +kernel⟩
theorem ok_wayEnd (D : DefAt K mg "way_end" sWayEnd) (T : Txt K mg C) (eW : ErrAt K mg "BadWay" CW) (G_is_sequence : Keeps w K mg base CX0 "is_sequence" 1 ["value"] spIsSequence) (G_check_queue : Keeps w K mg base (L2.CX Pg w) "check_queue" 4 ["merger", "value"] (spCheckQueue C CQ))
    (G_can_fold : Keeps w K mg base CX0 "can_fold" 4 ["rows", "queue", "place"] spCanFold) (G_folded_once : Keeps w K mg base CX0 "folded_once" 1 ["rows", "queue", "place"] spFoldedOnce) : KeepsR w K mg base (L2.CX Pg w) "way_end" 5 ["merger", "queue", "way"] (spWayEnd C CQ CW) := by
  refine keepsX D scWE (fun vs H Q E h => ?_) (fun _ _ _ _ _ _ us hl => match us, hl with | [_, _, _], _ => rfl) (fun _ _ _ _ _ _ us hl => match us, hl with | [_, _, _], _ => rfl) fun f cdv A outer s H vs Q E hr h => ?_
  · obtain ⟨m, n, rows, v, p, rfl, _⟩ := h
    rfl
  · obtain ⟨m, n, rows, v, y, rfl, hM, sq, h⟩ := h
    obtain ⟨_, eBadWay⟩ := eW
    refine ⟨_, (pss_cons (ps_set (i := 3) scWE.nd rfl (Or.inl rfl) (pe_k G_check_queue rfl (hr.mono (by decide)) (by rfl) (passes_call (takes_of rfl rfl rfl rfl) (fun _ _ _ _ h => h)) (pa_cons (pv 0) (pa_cons (pv 1) pa_nil))))
      (pss_cons (ps_if (pt_not (pt_val (pe_k G_is_sequence rfl (hr.mono (by decide)) (by rfl) pass0 (pa_cons (pv 2) pa_nil)))) (pss_one (ps_raiseErr rfl eBadWay hr (takes_of rfl rfl rfl rfl) (pa_cons (pe_un un_neg pe_int) pa_nil))) pss_nil)
      (pss_cons (ps_for PassesOwn.leaving rfl (pi_enumW (by rfl) T.enumerate (pa_cons (pv 2) pa_nil)) (pg_tup (by rfl) (pgs_cons (pg_name (i := 4) scWE.nd rfl (Or.inl rfl)) (pgs_cons (pg_name (i := 5) scWE.nd rfl (Or.inl rfl)) pgs_nil))) (pss_cons (ps_if (pt_not (pt_val (pe_k G_can_fold rfl (hr.mono (by decide)) (by rfl) pass0 (pa_cons (pe_fld (pv 0) rfl) (pa_cons (pv 3) (pa_cons (pv 5) pa_nil)))))) (pss_one (ps_raiseErr rfl eBadWay hr (takes_of rfl rfl rfl rfl) (pa_cons (pv 4) pa_nil))) pss_nil)
      (pss_one (ps_set (i := 3) scWE.nd rfl (Or.inl rfl) (pe_k G_folded_once rfl (hr.mono (by decide)) (by rfl) pass0 (pa_cons (pe_fld (pv 0) rfl) (pa_cons (pv 3) (pa_cons (pv 5) pa_nil))))))))
      (pss_one (ps_ret (pv 3)))))), ?_⟩
    rcases h with ⟨q, hg, hk, h⟩ | ⟨i, hb, fl⟩
    · refine ⟨_, rfl, _, rfl, m, n, rows, v, rfl, hM, .inl ⟨q, hg, fun H1 t S1 ht => ?_⟩⟩
      obtain ⟨_, _, _, hq, hl⟩ := hg
      refine ⟨_, rfl, y, rfl, hk.same S1, fun p2 cs2 hp2 => ⟨_, rfl, ?_⟩⟩
      have e0 : isS H1 y = isS H y := by cases y <;> rfl
      rw [e0]
      have S2 : Same H (upd H1 p2 (.tup cs2)) := S1.new hp2
      have ht2 := same_new (o := .tup cs2) hp2 _ _ ht
      generalize upd H1 p2 (.tup cs2) = H2 at S2 ht2
      rcases h with ⟨hs, fl⟩ | ⟨a, w', rest, rfl, hy, har, hw, good, bad⟩
      · rw [hs]
        exact iteT ⟨_, rfl, _, rfl, fl.go S2⟩
      · refine iteF ?_
        have hy0 := hy.same S2
        refine ⟨_, rfl, a, nV w' ++ rest, rfl, hy0, fun J wJ => for_it wJ (fun i σ H' => (∃ u c d, σ = [some (.ref m), some v, some (.ref a), some (.ref u), c, d] ∧ H' u = some (.tup (iV (wayEnd rows q (w'.take i))))) ∧ Same H H' ∧ i ≤ w'.length)
          ⟨⟨_, _, _, rfl, ht2⟩, S2, Nat.zero_le _⟩ (fun i σ H' _ z => hy.stay S2 z.2.1) (fun i x σ H3 H3' hi ⟨⟨u, c, d, eσ, hu⟩, z1, zi⟩ yy => ?_) fun σ H3 ⟨⟨u, c, d, eσ, hu⟩, z1, zi⟩ => ?_⟩
        · subst eσ
          obtain ⟨tt, uu, x, rfl, htt, rfl, e1, e2⟩ := yy
          have e1' : uu = .int (i : Nat) := (Option.some.inj e1).symm
          subst e1'
          have e2 : (nV w' ++ rest)[i]? = some x := e2
          have S3 : Same H (upd H3 tt (.tup [.int (i : Nat), x])) := z1.new htt
          have hu3 := same_new (o := .tup [.int (i : Nat), x]) htt _ _ hu
          have T3 : (upd H3 tt (.tup [.int (i : Nat), x])) tt = some (.tup [.int (i : Nat), x]) := upd_same
          generalize upd H3 tt (.tup [.int (i : Nat), x]) = H4 at S3 T3 hu3
          have hM1 := hM.same S3
          obtain ⟨dx, r, as, hm, hT⟩ := hM1
          have hq3 := wayEnd_que sq hq (wayOk_take i hw)
          have lnV : (nV w').length = w'.length := by unfold nV; rw [List.length_map]
          refine ⟨tt, _, rfl, SqT.of T3, rfl, _, _, rfl, _, _, rfl, rfl, ?_⟩
          have kx : Kd H x := by
            by_cases hi2 : i < w'.length
            · rw [List.getElem?_append_left (by omega)] at e2
              obtain ⟨j, _, rfl⟩ := map_item e2
              exact .int _
            · rw [List.getElem?_append_right (by omega)] at e2
              exact har x (List.mem_of_getElem? e2)
          refine ⟨_, rfl, m, C, dx, _, _, rfl, hm, T.cl, T.nR, fs_r, _, rfl, _, rfl, r, u, as, rows, n, _, x, rfl, hT, sq, hu3, hq3, kx.same S3, _, rfl, ?_⟩
          by_cases hi2 : i < w'.length
          · rw [List.getElem?_append_left (by omega)] at e2
            obtain ⟨j, ej, rfl⟩ := map_item e2
            have can := wayOk_at hw ej
            rw [canB_nat.mpr can]
            refine iteF ⟨_, rfl, m, C, dx, _, _, rfl, hm, T.cl, T.nR, fs_r, _, rfl, _, rfl, r, u, as, rows, n, _, j, rfl, hT, sq, hu3, hq3, Nat.le_trans (Nat.le_of_add_right_le (wayEnd_len (wayOk_take i hw))) hl, can, fun H5 u' S5 hu5 => ?_⟩
            exact ⟨⟨u', _, _, rfl, by rw [wayEnd_step ej]; exact hu5⟩, S3.trans S5, hi2⟩
          · have ei : i = w'.length := by omega
            rw [List.getElem?_append_right (by omega), lnV, ei, Nat.sub_self] at e2
            cases rest with
            | nil => cases e2
            | cons z zs =>
              cases e2
              obtain ⟨b1, b2⟩ := bad x zs rfl
              have et : w'.take i = w' := by rw [ei, List.take_length]
              rw [et, b1]
              refine iteT ⟨_, rfl, _, rfl, ?_⟩
              rw [ei]
              exact b2.go S3
        · subst eσ
          have lnV : (nV w').length = w'.length := by unfold nV; rw [List.length_map]
          have er : rest = [] := by
            rw [List.length_append, lnV] at zi
            cases rest with
            | nil => rfl
            | cons z zs => rw [List.length_cons] at zi; omega
          refine ⟨_, rfl, good er H3 u z1 ?_⟩
          rw [hu, List.length_append, lnV, List.take_of_length_le (by omega)]
    · exact ⟨_, rfl, _, rfl, m, n, rows, v, rfl, hM, .inr ⟨i, hb.1, hb.2.1, hb.2.2, fl⟩⟩
end
end K7
end

section
-- K7Fold
set_option Elab.async false
set_option linter.all false
set_option maxRecDepth 100000
set_option maxHeartbeats 4000000
/-! the plain way: a pile. -/
namespace K7
open PySem PySem.Spec PyProof.Rows L2
theorem rev_cons (h : Int) (p : List Int) : iV (h :: p).reverse = iV p.reverse ++ [V.int h] := by rw [List.reverse_cons, iV_app]; rfl
theorem rev_cons2 (h t : Int) (p : List Int) : iV (h :: t :: p).reverse = iV p.reverse ++ [V.int t, V.int h] := by rw [rev_cons, rev_cons, List.append_assoc]; rfl
theorem atI_last2 {xs : List V} {a b : V} : atI (xs ++ [a, b]) (-2) = some a := by
  unfold atI
  have e : ixN (xs ++ [a, b]).length (-2) = some xs.length := by
    unfold ixN
    rw [if_neg (by decide), if_pos (by rw [List.length_append]; show -((xs.length + 2 : Nat) : Int) ≤ -2; omega)]
    rw [List.length_append]
    show some (((-2 : Int) + ((xs.length + 2 : Nat) : Int)).toNat) = _
    congr 1
    omega
  rw [e]
  show (xs ++ [a, b])[xs.length]? = some a
  rw [List.getElem?_append_right (Nat.le_refl _), Nat.sub_self]
  rfl
theorem atI_last1 {xs : List V} {a b : V} : atI (xs ++ [a, b]) (-1) = some b := by
  have := atI_last (xs ++ [a]) b
  rwa [List.append_assoc] at this
def spPressLast : Sp := fun vs H Q _ => ∃ (r l : Addr) (as : List Addr) (rows : Rw) (n : Nat) (p : List Int) (c : Int), vs = [.ref r, .ref l, .int c] ∧ RT H r as rows ∧ Sq rows n ∧ H l = some (.lst (iV p.reverse)) ∧ Que n p ∧ Fo rows p ∧ Com n c ∧ p.length ≤ 10000 ∧
  ∀ H', Keep l H H' → H' l = some (.lst (iV (put rows p c).reverse)) → Q (.int (many rows p c : Nat)) H'
def spPlainSteps : Sp := fun vs H Q _ => ∃ (r t : Addr) (as : List Addr) (rows : Rw) (n : Nat) (q : List Int), vs = [.ref r, .ref t] ∧ RT H r as rows ∧ Sq rows n ∧ H t = some (.tup (iV q)) ∧ Que n q ∧ q.length ≤ 10000 ∧
  ∀ H' p a b, Same H H' → H' p = some (.tup [.ref a, .ref b]) → H' a = some (.tup (iV (plain rows q))) → H' b = some (.tup (nV (places rows q))) → Q (.ref p) H'
def spPlainFold (C CQ : Addr) : Sp := fun vs H Q E => ∃ (m : Addr) (n : Nat) (rows : Rw) (v : V), vs = [.ref m, v] ∧ Mg C H m n rows ∧ Sq rows n ∧
  ((∃ q, GoodQ H n v q ∧ ∀ H' t, Same H H' → H' t = some (.tup (iV (plain rows q))) → Q (.ref t) H') ∨ ∃ i, BadV H n v i ∧ Flies CQ H E (.int i))
def spPlainWay (C CQ : Addr) : Sp := fun vs H Q E => ∃ (m : Addr) (n : Nat) (rows : Rw) (v : V), vs = [.ref m, v] ∧ Mg C H m n rows ∧ Sq rows n ∧
  ((∃ q, GoodQ H n v q ∧ ∀ H' t, Same H H' → H' t = some (.tup (nV (places rows q))) → Q (.ref t) H') ∨ ∃ i, BadV H n v i ∧ Flies CQ H E (.int i))
theorem RT.keep {b : Addr} {H H' : Hp} {r : Addr} {as : List Addr} {rows : Rw} {xs : List V} (h : RT H r as rows) (s : Keep b H H') (hb : H b = some (.lst xs)) : RT H' r as rows :=
  ⟨s _ _ (ne_of h.1 hb (by intro z; cases z)) h.1, h.2.1, fun i a row e1 e2 => s _ _ (ne_of (h.2.2 i a row e1 e2) hb (by intro z; cases z)) (h.2.2 i a row e1 e2)⟩
section
variable {w : World} {K : PySem.W.Frag} {mg : Str → Option Value} {base : Heap} {C CQ CW CR : Addr}
abbrev scPLN : List Str := ["rows", "pile", "command", "many", "last", "end"]
theorem scPL : FnScope scPLN ["rows", "pile", "command"] (defScope sPressLast) := ⟨rfl, rfl, rfl, by decide +kernel, rfl, by decide +kernel, by decide +kernel⟩
theorem ok_pressLast (D : DefAt K mg "press_last" sPressLast) (T : Txt K mg C) : Keeps w K mg base CX0 "press_last" 1 ["rows", "pile", "command"] spPressLast := by
  refine keeps0 D scPL (fun vs H Q E h => ?_) (fun _ _ _ _ _ _ us hl => match us, hl with | [_, _, _], _ => rfl) fun f cdv A outer s H vs Q E hr h => ?_
  · obtain ⟨r, l, as, rows, n, p, c, rfl, _⟩ := h
    rfl
  · obtain ⟨r, l, as, rows, n, p, c, rfl, hT, sq, hl, hp, hf, hc, hlen, k⟩ := h
    obtain ⟨_, gGONE⟩ := T.cGONE
    refine ⟨_, (pss_cons (ps_expr (pe_bm PySem.F.plainAttrs_list PySem.F.slot_list_append PySem.F.type_list_append mt_append (pv 1) (pa_cons (pv 2) pa_nil)))
      (pss_cons (ps_set (i := 3) scPL.nd rfl (Or.inl rfl) pe_int)
      (pss_cons (ps_while PassesOwn.never (PW.pt (pw_and (pt_cmpR op_gt (pe_callB (c_len K) (by rfl) T.len PySem.boot_len (pa_cons (pv 1) pa_nil)) pe_int (nomark _)) (pw_and1 (pt_cmpR op_notN (pe_ix ix_tup (pe_ix ix_tup (pv 0) (pe_ix ix_list (pv 1) (pe_un un_neg pe_int) (fun _ _ => rfl)) (fun _ _ => rfl)) (pe_ix ix_list (pv 1) (pe_un un_neg pe_int) (fun _ _ => rfl)) (fun _ _ => rfl)) pe_non (nomark _))))) (pss_cons (ps_set (i := 4) scPL.nd rfl (Or.inl rfl) (pe_bm0 PySem.F.plainAttrs_list PySem.F.slot_list_pop PySem.F.type_list_pop mt_pop (pv 1)))
      (pss_cons (ps_set (i := 5) scPL.nd rfl (Or.inl rfl) (pe_ix ix_tup (pe_ix ix_tup (pv 0) (pe_bm0 PySem.F.plainAttrs_list PySem.F.slot_list_pop PySem.F.type_list_pop mt_pop (pv 1)) (fun _ _ => rfl)) (pv 4) (fun _ _ => rfl)))
      (pss_cons (ps_if (pt_cmpR op_ne (pv 5) (pe_glob (v := .int (-1)) rfl gGONE ⟨_, rfl⟩) (nomark _)) (pss_one (ps_expr (pe_bm PySem.F.plainAttrs_list PySem.F.slot_list_append PySem.F.type_list_append mt_append (pv 1) (pa_cons (pv 5) pa_nil)))) pss_nil)
      (pss_one (ps_aug (i := 3) scPL.nd rfl (Or.inl rfl) pe_int ip_add))))))
      (pss_one (ps_ret (pv 3)))))), ?_⟩
    have plen : (iV p.reverse).length = p.length := by rw [iV_len, List.length_reverse]
    refine ⟨_, rfl, .inl ⟨rfl, _, SqL.of hl⟩, _, rfl, l, _, _, rfl, rfl, hl, by rw [plen]; show _ < 16777216; omega, ?_⟩
    have K0 : Keep l H (upd H l (.lst (iV p.reverse ++ [V.int c]))) := keep_upd
    have L0 : (upd H l (.lst (iV p.reverse ++ [V.int c]))) l = some (.lst (iV (c :: p).reverse)) := by rw [upd_same, rev_cons]
    generalize upd H l (.lst (iV p.reverse ++ [V.int c])) = H0 at K0 L0
    refine ⟨fun μ σ H' => ∃ (p1 : List Int) (k1 : Nat) (c4 c5 : Option V), σ = [some (.ref r), some (.ref l), some (.int c), some (.int (k1 : Nat)), c4, c5] ∧ Keep l H H' ∧ Que n p1 ∧ Fo rows p1 ∧ p1.length ≤ p.length ∧ k1 ≤ p.length ∧
        ((∃ h1, μ = p1.length + 1 ∧ Com n h1 ∧ H' l = some (.lst (iV (h1 :: p1).reverse)) ∧ press rows p c = ((press rows p1 h1).1, (press rows p1 h1).2.1, (press rows p1 h1).2.2 + k1) ∧ p1.length + k1 = p.length) ∨
          (μ = 0 ∧ H' l = some (.lst (iV p1.reverse)) ∧ press rows p c = (p1, -1, k1))), ⟨p.length + 1, p, 0, _, _, rfl, K0, hp, hf, Nat.le_refl _, Nat.zero_le _, .inl ⟨c, rfl, hc, L0, rfl, rfl⟩⟩, ?_⟩
    rintro μ σ H1 ⟨p1, k1, c4, c5, rfl, K1, hq1, hf1, hl1, hk1, h⟩
    have hT1 := hT.keep K1 hl
    have gt : ∀ (m : Nat) (xs : List V), xs.length = m → decide (((xs.length : Nat) : Int) > 1) = decide (1 < m) := fun m xs e => by rw [e]; congr 1; exact propext ⟨fun h => by omega, fun h => by omega⟩
    rcases h with ⟨h1, rfl, hc1, e1, ep, ek⟩ | ⟨rfl, e1, ep⟩
    · cases p1 with
      | nil =>
        refine ⟨_, rfl, l, _, rfl, .inl (SqL.of e1), _, _, rfl, rfl, _, rfl, ?_⟩
        refine iteF (iteF ⟨_, rfl, ?_⟩)
        have em : many rows p c = k1 := by unfold many; rw [ep]; exact Nat.zero_add _
        have eput : put rows p c = [h1] := by
          unfold put lay
          rw [ep]
          exact if_neg (by show h1 ≠ -1; have := hc1.1; omega)
        rw [← em]
        exact k H1 K1 (by rw [e1, eput])
      | cons t p2 =>
        rw [rev_cons2] at e1
        have ht : Com n t := hq1 t (List.mem_cons_self ..)
        obtain ⟨pa, wa, f1, f2, f3, _⟩ := hT1.get sq ht hc1
        refine ⟨_, rfl, l, _, rfl, .inl (SqL.of e1), _, _, rfl, rfl, _, rfl, ?_⟩
        rw [gt (p2.length + 2) _ (by rw [List.length_append, iV_len, List.length_reverse]; rfl), decide_eq_true (by omega)]
        refine iteT ⟨_, rfl, _, rfl, _, rfl, l, _, _, _, rfl, rfl, SqL.of e1, atI_last2, r, _, _, _, rfl, rfl, SqT.of hT1.1, f1, _, rfl, _, rfl, l, _, _, _, rfl, rfl, SqL.of e1, atI_last1, pa, _, _, _, rfl, rfl, SqT.of f2, f3, rfl, _, rfl, ?_⟩
        rw [eV_non]
        cases ee : rows.at t h1 with
        | none =>
          refine iteF ⟨_, rfl, ?_⟩
          rw [press_none ee] at ep
          have em : many rows p c = k1 := by unfold many; rw [ep]; exact Nat.zero_add _
          have eput : put rows p c = h1 :: t :: p2 := by
            unfold put lay
            rw [ep]
            exact if_neg (by show h1 ≠ -1; have := hc1.1; omega)
          rw [← em]
          exact k H1 K1 (by rw [e1, eput, rev_cons2])
        | some e =>
          rw [press_some (by have := hc1.1; omega) ee] at ep
          have len2 : (iV p2.reverse ++ [V.int t, V.int h1]).length = p2.length + 2 := by rw [List.length_append, iV_len, List.length_reverse]; rfl
          have last : (iV p2.reverse ++ [V.int t, V.int h1])[(iV p2.reverse ++ [V.int t, V.int h1]).length - 1]? = some (V.int h1) := by
            rw [len2, List.getElem?_append_right (by rw [iV_len, List.length_reverse]; omega), iV_len, List.length_reverse, show p2.length + 2 - 1 - p2.length = 1 by omega]
            rfl
          have dl : (iV p2.reverse ++ [V.int t, V.int h1]).dropLast = iV p2.reverse ++ [V.int t] := by
            rw [List.dropLast_append_of_ne_nil (by simp)]; rfl
          have len1 : (iV p2.reverse ++ [V.int t]).length = p2.length + 1 := by rw [List.length_append, iV_len, List.length_reverse]; rfl
          have last1 : (iV p2.reverse ++ [V.int t])[(iV p2.reverse ++ [V.int t]).length - 1]? = some (V.int t) := by
            rw [len1, List.getElem?_append_right (by rw [iV_len, List.length_reverse]; omega), iV_len, List.length_reverse, show p2.length + 1 - 1 - p2.length = 0 by omega]
            rfl
          have dl1 : (iV p2.reverse ++ [V.int t]).dropLast = iV p2.reverse := by
            rw [List.dropLast_append_of_ne_nil (by simp)]; exact List.append_nil _
          refine iteT ⟨fun σ' H' => ∃ m', m' < (t :: p2).length + 1 ∧ ∃ (p1 : List Int) (k1 : Nat) (c4 c5 : Option V), σ' = [some (.ref r), some (.ref l), some (.int c), some (.int (k1 : Nat)), c4, c5] ∧ Keep l H H' ∧ Que n p1 ∧ Fo rows p1 ∧ p1.length ≤ p.length ∧ k1 ≤ p.length ∧
            ((∃ h1, m' = p1.length + 1 ∧ Com n h1 ∧ H' l = some (.lst (iV (h1 :: p1).reverse)) ∧ press rows p c = ((press rows p1 h1).1, (press rows p1 h1).2.1, (press rows p1 h1).2.2 + k1) ∧ p1.length + k1 = p.length) ∨
              (m' = 0 ∧ H' l = some (.lst (iV p1.reverse)) ∧ press rows p c = (p1, -1, k1))), fun σ' H' z => z, ?_⟩
          refine ⟨_, rfl, .inl ⟨rfl, _, SqL.of e1⟩, l, _, _, rfl, rfl, e1, last, ?_⟩
          rw [dl]
          have K2 : Keep l H (upd H1 l (.lst (iV p2.reverse ++ [V.int t]))) := K1.trans keep_upd
          have L2' : (upd H1 l (.lst (iV p2.reverse ++ [V.int t]))) l = some (.lst (iV p2.reverse ++ [V.int t])) := upd_same
          generalize upd H1 l (.lst (iV p2.reverse ++ [V.int t])) = H2 at K2 L2'
          refine ⟨_, rfl, _, rfl, .inl ⟨rfl, _, SqL.of L2'⟩, l, _, _, rfl, rfl, L2', last1, ?_⟩
          rw [dl1]
          have K3 : Keep l H (upd H2 l (.lst (iV p2.reverse))) := K2.trans keep_upd
          have L3 : (upd H2 l (.lst (iV p2.reverse))) l = some (.lst (iV p2.reverse)) := upd_same
          generalize upd H2 l (.lst (iV p2.reverse)) = H3 at K3 L3
          have hT3 := hT.keep K3 hl
          obtain ⟨pb, wb, g1, g2, g3, _⟩ := hT3.get sq ht hc1
          rw [ee] at g3
          refine ⟨r, _, _, _, rfl, rfl, SqT.of hT3.1, g1, _, rfl, pb, _, _, _, rfl, rfl, SqT.of g2, g3, ?_⟩
          have hq2 : Que n p2 := fun x hx => hq1 x (List.mem_cons_of_mem _ hx)
          have hl2 : p2.length + 1 ≤ p.length := hl1
          have ek' : p2.length + 1 + k1 = p.length := ek
          refine ⟨_, rfl, rfl, _, rfl, ?_⟩
          rw [show (!decide (eV (some e) = V.int (-1))) = !decide (e = -1) by simp [eV]]
          by_cases hg : e = -1
          · subst hg
            refine iteF ⟨_, rfl, _, _, rfl, rfl, ?_⟩
            refine ⟨0, by omega, p2, k1 + 1, _, _, rfl, K3, hq2, hf1.tail, by omega, by omega, .inr ⟨rfl, L3, ?_⟩⟩
            rw [ep, press_gone]
            show (p2, -1, 0 + 1 + k1) = (p2, -1, k1 + 1)
            rw [show 0 + 1 + k1 = k1 + 1 by omega]
          · rw [decide_eq_false hg]
            refine iteT ⟨_, rfl, .inl ⟨rfl, _, SqL.of L3⟩, _, rfl, l, _, _, rfl, rfl, L3, by rw [iV_len, List.length_reverse]; show _ < 16777216; omega, ?_⟩
            have K4 : Keep l H (upd H3 l (.lst (iV p2.reverse ++ [V.int e]))) := K3.trans keep_upd
            refine ⟨_, rfl, _, _, rfl, rfl, ?_⟩
            refine ⟨p2.length + 1, by show _ < p2.length + 1 + 1; omega, p2, k1 + 1, _, _, rfl, K4, hq2, hf1.tail, by omega, by omega, .inl ⟨e, rfl, sq.com ht hc1 ee hg, by rw [upd_same, rev_cons]; rfl, ?_, by omega⟩⟩
            rw [ep, show (press rows p2 e).2.2 + 1 + k1 = (press rows p2 e).2.2 + (k1 + 1) by omega]
    · have fin : Q (.int ((k1 : Nat) : Int)) H1 := by
        have em : many rows p c = k1 := by unfold many; rw [ep]
        have eput : put rows p c = p1 := by
          unfold put lay
          rw [ep]
          exact if_pos rfl
        rw [← em]
        exact k H1 K1 (by rw [e1, eput])
      cases p1 with
      | nil =>
        refine ⟨_, rfl, l, _, rfl, .inl (SqL.of e1), _, _, rfl, rfl, _, rfl, ?_⟩
        exact iteF (iteF ⟨_, rfl, fin⟩)
      | cons h1 p2 =>
        cases p2 with
        | nil =>
          refine ⟨_, rfl, l, _, rfl, .inl (SqL.of e1), _, _, rfl, rfl, _, rfl, ?_⟩
          exact iteF (iteF ⟨_, rfl, fin⟩)
        | cons t p2 =>
          rw [rev_cons2] at e1
          have hh : Com n h1 := hq1 h1 (List.mem_cons_self ..)
          have ht : Com n t := hq1 t (List.mem_cons_of_mem _ (List.mem_cons_self ..))
          obtain ⟨pa, wa, f1, f2, f3, _⟩ := hT1.get sq ht hh
          rw [hf1.1] at f3
          refine ⟨_, rfl, l, _, rfl, .inl (SqL.of e1), _, _, rfl, rfl, _, rfl, ?_⟩
          rw [gt (p2.length + 2) _ (by rw [List.length_append, iV_len, List.length_reverse]; rfl), decide_eq_true (by omega)]
          refine iteT ⟨_, rfl, _, rfl, _, rfl, l, _, _, _, rfl, rfl, SqL.of e1, atI_last2, r, _, _, _, rfl, rfl, SqT.of hT1.1, f1, _, rfl, _, rfl, l, _, _, _, rfl, rfl, SqL.of e1, atI_last1, pa, _, _, _, rfl, rfl, SqT.of f2, f3, rfl, _, rfl, ?_⟩
          exact iteF ⟨_, rfl, fin⟩
theorem steps_take {rows : Rw} {q : List Int} {i : Nat} {c : Int} (e : q[i]? = some c) :
    steps rows (q.take (i + 1)) ([], []) = (put rows (steps rows (q.take i) ([], [])).1 c, (steps rows (q.take i) ([], [])).2 ++ downs (steps rows (q.take i) ([], [])).1.length (many rows (steps rows (q.take i) ([], [])).1 c)) := by
  rw [List.take_add_one, e]
  exact steps_app rows (q.take i) [c] ([], [])
theorem nV_app (p q : List Nat) : nV (p ++ q) = nV p ++ nV q := by unfold nV; rw [List.map_append]
theorem nV_len (q : List Nat) : (nV q).length = q.length := by unfold nV; rw [List.length_map]
theorem downs_take {l k i : Nat} (h : i < k) : (downs l k).take (i + 1) = (downs l k).take i ++ [l - 1 - i] := by
  rw [List.take_add_one, downs_get k l i h]
  rfl
theorem many_le {rows : Rw} {p : List Int} {c : Int} : many rows p c ≤ p.length := by
  have := press_len (rows := rows) (p := p) (h := c)
  unfold many
  omega
abbrev scPSN : List Str := ["rows", "queue", "pile", "places", "command", "place", "turn"]
theorem scPS : FnScope scPSN ["rows", "queue"] (defScope sPlainSteps) := ⟨rfl, rfl, rfl, by decide +kernel, rfl, by decide +kernel, by decide +kernel⟩
theorem ok_plainSteps (D : DefAt K mg "plain_steps" sPlainSteps) (T : Txt K mg C) (G_press_last : Keeps w K mg base CX0 "press_last" 1 ["rows", "pile", "command"] spPressLast) : Keeps w K mg base CX0 "plain_steps" 2 ["rows", "queue"] spPlainSteps := by
  refine keeps0 D scPS (fun vs H Q E h => ?_) (fun _ _ _ _ _ _ us hl => match us, hl with | [_, _], _ => rfl) fun f cdv A outer s H vs Q E hr h => ?_
  · obtain ⟨r, t, as, rows, n, q, rfl, _⟩ := h
    rfl
  · obtain ⟨r, t, as, rows, n, q, rfl, hT, sq, ht, hq, hlen, k⟩ := h
    refine ⟨_, (pss_cons (ps_set (i := 2) scPS.nd rfl (Or.inl rfl) (pe_lst pa_nil))
      (pss_cons (ps_set (i := 3) scPS.nd rfl (Or.inl rfl) (pe_lst pa_nil))
      (pss_cons (ps_for PassesOwn.never rfl (pi_tup (pv 1)) (pg_name (i := 4) scPS.nd rfl (Or.inl rfl)) (pss_cons (ps_set (i := 5) scPS.nd rfl (Or.inl rfl) (pe_op op_sub (pe_callB (c_len K) (by rfl) T.len PySem.boot_len (pa_cons (pv 2) pa_nil)) pe_int))
      (pss_one (ps_for PassesOwn.never rfl (pi_range1 (by rfl) T.range (pa_cons (pe_k G_press_last rfl (hr.mono (by decide)) (by rfl) pass0 (pa_cons (pv 0) (pa_cons (pv 2) (pa_cons (pv 4) pa_nil)))) pa_nil)) (pg_name (i := 6) scPS.nd rfl (Or.inl rfl)) (pss_one (ps_expr (pe_bm PySem.F.plainAttrs_list PySem.F.slot_list_append PySem.F.type_list_append mt_append (pv 3) (pa_cons (pe_op op_sub (pv 5) (pv 6)) pa_nil))))))))
      (pss_one (ps_ret (pe_tup (pa_cons (pe_callTy (c_tuple K) (by rfl) T.tuple boot_tuple (pa_cons (pv 2) pa_nil)) (pa_cons (pe_callTy (c_tuple K) (by rfl) T.tuple boot_tuple (pa_cons (pv 3) pa_nil)) pa_nil)))))))), ?_⟩
    refine ⟨Nat.zero_le _, fun l hl => ?_⟩
    have S1 : Same H (upd H l (.lst [])) := same_new hl
    refine ⟨Nat.zero_le _, fun b hb => ?_⟩
    have nlb : l ≠ b := fun z => by rw [← z, upd_same] at hb; cases hb
    have S2 : Same H (upd (upd H l (.lst [])) b (.lst [])) := S1.new hb
    have Ll : (upd (upd H l (.lst [])) b (.lst [])) l = some (.lst (iV ([] : List Int).reverse)) := by rw [upd_ne nlb, upd_same]; rfl
    have Lb : (upd (upd H l (.lst [])) b (.lst [])) b = some (.lst (nV [])) := upd_same
    have hbH : H b = none := by rw [upd_ne nlb.symm] at hb; exact hb
    generalize upd (upd H l (.lst [])) b (.lst []) = H2 at S2 Ll Lb
    have lens : ∀ i, (steps rows (q.take i) ([], [])).1.length + (steps rows (q.take i) ([], [])).2.length ≤ q.length := fun i => by
      have h1 := steps_many (rows := rows) (q := q.take i) (s := ([], []))
      have h2 : (q.take i).length ≤ q.length := by rw [List.length_take]; omega
      have h3 : (([], []) : List Int × List Nat).1.length = 0 := rfl
      have h4 : (([], []) : List Int × List Nat).2.length = 0 := rfl
      omega
    refine ⟨_, rfl, t, rfl, ⟨_, SqT.of (S2 _ _ ht)⟩, for_tup (K := K) (a := t) (xs := iV q) (fun i σ H' => (∃ c4 c5 c6, σ = [some (.ref r), some (.ref t), some (.ref l), some (.ref b), c4, c5, c6]) ∧ Same H H' ∧
        H' l = some (.lst (iV (steps rows (q.take i) ([], [])).1.reverse)) ∧ H' b = some (.lst (nV (steps rows (q.take i) ([], [])).2)))
      ⟨⟨_, _, _, rfl⟩, S2, by rw [List.take_zero]; exact Ll, by rw [List.take_zero]; exact Lb⟩ (fun i σ H' _ z => SqT.of (z.2.1 _ _ ht)) (fun i x σ H3 hx ⟨⟨c4, c5, c6, eσ⟩, z1, z2, z3⟩ => ?_) fun σ H3 ⟨⟨c4, c5, c6, eσ⟩, z1, z2, z3⟩ => ?_⟩
    · subst eσ
      obtain ⟨c, hc, rfl⟩ := map_item hx
      have hl1 := lens i
      have cc := hq.get hc
      have qs : Que n (steps rows (q.take i) ([], [])).1 := steps_que sq (fun d hd => hq d (List.mem_of_mem_take hd)) (fun d hd => by cases hd)
      have fs : Fo rows (steps rows (q.take i) ([], [])).1 := steps_fo trivial
      have st := steps_take (rows := rows) hc
      generalize steps rows (q.take i) ([], []) = s0 at *
      refine ⟨_, rfl, l, _, rfl, .inl (SqL.of z2), _, _, rfl, rfl, ?_⟩
      have hT3 := hT.same z1
      have nbl : b ≠ l := nlb.symm
      refine ⟨_, rfl, _, rfl, _, rfl, r, l, as, rows, n, s0.1, c, rfl, hT3, sq, z2, qs, fs, cc, by omega, fun H4 K4 hl4 => ?_⟩
      have hm := many_le (rows := rows) (p := s0.1) (c := c)
      have S4 : Same H H4 := fun a o e => K4 a o (ne_of_none e hl) (z1 a o e)
      have hb4 := K4 _ _ nbl z3
      refine ⟨_, rfl, by omega, by omega, for_range (lo := 0) (n := ((many rows s0.1 c : Nat) : Int).toNat) (fun j σ H' => (∃ c6, σ = [some (.ref r), some (.ref t), some (.ref l), some (.ref b), some (.int c), some (.int (((iV s0.1.reverse).length : Nat) - 1 : Int)), c6]) ∧ Same H H' ∧
          H' l = some (.lst (iV (put rows s0.1 c).reverse)) ∧ H' b = some (.lst (nV (s0.2 ++ (downs s0.1.length (many rows s0.1 c)).take j))))
        ⟨⟨_, rfl⟩, S4, hl4, by rw [List.take_zero, List.append_nil]; exact hb4⟩ (fun j σ H5 hj ⟨⟨c6, eσ⟩, y1, y2, y3⟩ => ?_) fun σ H5 ⟨⟨c6, eσ⟩, y1, y2, y3⟩ => ?_⟩
      · subst eσ
        rw [Int.toNat_natCast] at hj
        have ln : (nV (s0.2 ++ (downs s0.1.length (many rows s0.1 c)).take j)).length < 16777216 := by
          rw [nV_len, List.length_append, List.length_take, downs_len]; omega
        refine ⟨_, rfl, .inl ⟨rfl, _, SqL.of y3⟩, _, rfl, _, rfl, _, _, rfl, rfl, b, _, _, rfl, rfl, y3, ln, ?_⟩
        refine ⟨⟨_, rfl⟩, fun a o e => ?_, ?_, ?_⟩
        · rw [upd_ne (ne_of_none e hbH)]; exact y1 a o e
        · rw [upd_ne nlb]; exact y2
        · rw [upd_same, downs_take hj, ← List.append_assoc, nV_app (s0.2 ++ (downs s0.1.length (many rows s0.1 c)).take j) [s0.1.length - 1 - j]]
          have ei : ((((iV s0.1.reverse).length : Nat) : Int) - 1 - (0 + (j : Int))) = ((s0.1.length - 1 - j : Nat) : Int) := by
            rw [iV_len, List.length_reverse]; omega
          show some (HO.lst (nV _ ++ [V.int ((((iV s0.1.reverse).length : Nat) : Int) - 1 - (0 + (j : Int)))])) = _
          rw [ei]
          rfl
      · subst eσ
        rw [Int.toNat_natCast] at y3
        refine ⟨⟨_, _, _, rfl⟩, y1, ?_, ?_⟩
        · rw [st]; exact y2
        · rw [st, y3, List.take_of_length_le (by rw [downs_len]; exact Nat.le_refl _)]
    · subst eσ
      have et : q.take (iV q).length = q := by rw [iV_len, List.take_length]
      rw [et] at z2 z3
      refine ⟨_, rfl, l, _, rfl, .inl ⟨SqL.of z2, fun a ha => ?_⟩⟩
      have S5 : Same H (upd H3 a (.tup (iV (steps rows q ([], [])).1.reverse))) := z1.new ha
      have La : (upd H3 a (.tup (iV (steps rows q ([], [])).1.reverse))) a = some (.tup (iV (plain rows q))) := upd_same
      have Lb5 := same_new (o := .tup (iV (steps rows q ([], [])).1.reverse)) ha _ _ z3
      generalize upd H3 a (.tup (iV (steps rows q ([], [])).1.reverse)) = H5 at S5 La Lb5
      refine ⟨_, rfl, b, _, rfl, .inl ⟨SqL.of Lb5, fun d hd => ?_⟩⟩
      have S6 := S5.new (o := .tup (nV (steps rows q ([], [])).2)) hd
      have La6 := same_new (o := .tup (nV (steps rows q ([], [])).2)) hd _ _ La
      have Ld : (upd H5 d (.tup (nV (steps rows q ([], [])).2))) d = some (.tup (nV (places rows q))) := upd_same
      generalize upd H5 d (.tup (nV (steps rows q ([], [])).2)) = H6 at S6 La6 Ld
      refine ⟨by show 2 ≤ sizeLine; decide, fun p hp => ?_⟩
      exact k _ p a d (S6.new hp) upd_same (same_new hp _ _ La6) (same_new hp _ _ Ld)
abbrev scPFN : List Str := ["merger", "queue"]
theorem scPF : FnScope scPFN ["merger", "queue"] (defScope sPlainFold) := ⟨rfl, rfl, rfl, by decide +kernel, rfl, by decide +kernel, by decide +kernel⟩
theorem ok_plainFold (D : DefAt K mg "plain_fold" sPlainFold) (T : Txt K mg C) (G_check_queue : Keeps w K mg base (L2.CX Pg w) "check_queue" 4 ["merger", "value"] (spCheckQueue C CQ)) (G_plain_steps : Keeps w K mg base CX0 "plain_steps" 2 ["rows", "queue"] spPlainSteps) :
    KeepsR w K mg base (L2.CX Pg w) "plain_fold" 5 ["merger", "queue"] (spPlainFold C CQ) := by
  refine keepsX D scPF (fun vs H Q E h => ?_) (fun _ _ _ _ _ _ us hl => match us, hl with | [_, _], _ => rfl) (fun _ _ _ _ _ _ us hl => match us, hl with | [_, _], _ => rfl) fun f cdv A outer s H vs Q E hr h => ?_
  · obtain ⟨m, n, rows, v, rfl, _⟩ := h
    rfl
  · obtain ⟨m, n, rows, v, rfl, hM, sq, h⟩ := h
    refine ⟨_, (pss_one (ps_ret (pe_ix ix_tup (pe_k G_plain_steps rfl (hr.mono (by decide)) (by rfl) pass0 (pa_cons (pe_fld (pv 0) rfl) (pa_cons (pe_k G_check_queue rfl (hr.mono (by decide)) (by rfl) (passes_call (takes_of rfl rfl rfl rfl) (fun _ _ _ _ h => h)) (pa_cons (pv 0) (pa_cons (pv 1) pa_nil))) pa_nil))) pe_int (fun _ _ => rfl)))), ?_⟩
    have hM' := hM
    obtain ⟨dx, r, as, hm, hT⟩ := hM'
    refine ⟨_, rfl, m, C, dx, _, _, rfl, hm, T.cl, T.nR, fs_r, _, rfl, _, rfl, m, n, rows, v, rfl, hM, ?_⟩
    rcases h with ⟨q, hg, k⟩ | ⟨i, hb, fl⟩
    · refine .inl ⟨q, hg, fun H1 t S1 ht => ?_⟩
      obtain ⟨_, _, _, hq, hl⟩ := hg
      refine ⟨r, t, as, rows, n, q, rfl, hT.same S1, sq, ht, hq, hl, fun H2 p a b S2 hp ha hb => ?_⟩
      exact ⟨p, _, _, _, rfl, rfl, SqT.of hp, atI_zero, k H2 a (S1.trans S2) ha⟩
    · exact .inr ⟨i, hb.1, hb.2.1, hb.2.2, fl⟩
abbrev scPWN : List Str := ["merger", "queue"]
theorem scPW : FnScope scPWN ["merger", "queue"] (defScope sPlainWay) := ⟨rfl, rfl, rfl, by decide +kernel, rfl, by decide +kernel, by decide +kernel⟩
theorem ok_plainWay (D : DefAt K mg "plain_way" sPlainWay) (T : Txt K mg C) (G_check_queue : Keeps w K mg base (L2.CX Pg w) "check_queue" 4 ["merger", "value"] (spCheckQueue C CQ)) (G_plain_steps : Keeps w K mg base CX0 "plain_steps" 2 ["rows", "queue"] spPlainSteps) :
    KeepsR w K mg base (L2.CX Pg w) "plain_way" 5 ["merger", "queue"] (spPlainWay C CQ) := by
  refine keepsX D scPW (fun vs H Q E h => ?_) (fun _ _ _ _ _ _ us hl => match us, hl with | [_, _], _ => rfl) (fun _ _ _ _ _ _ us hl => match us, hl with | [_, _], _ => rfl) fun f cdv A outer s H vs Q E hr h => ?_
  · obtain ⟨m, n, rows, v, rfl, _⟩ := h
    rfl
  · obtain ⟨m, n, rows, v, rfl, hM, sq, h⟩ := h
    refine ⟨_, (pss_one (ps_ret (pe_ix ix_tup (pe_k G_plain_steps rfl (hr.mono (by decide)) (by rfl) pass0 (pa_cons (pe_fld (pv 0) rfl) (pa_cons (pe_k G_check_queue rfl (hr.mono (by decide)) (by rfl) (passes_call (takes_of rfl rfl rfl rfl) (fun _ _ _ _ h => h)) (pa_cons (pv 0) (pa_cons (pv 1) pa_nil))) pa_nil))) pe_int (fun _ _ => rfl)))), ?_⟩
    have hM' := hM
    obtain ⟨dx, r, as, hm, hT⟩ := hM'
    refine ⟨_, rfl, m, C, dx, _, _, rfl, hm, T.cl, T.nR, fs_r, _, rfl, _, rfl, m, n, rows, v, rfl, hM, ?_⟩
    rcases h with ⟨q, hg, k⟩ | ⟨i, hb, fl⟩
    · refine .inl ⟨q, hg, fun H1 t S1 ht => ?_⟩
      obtain ⟨_, _, _, hq, hl⟩ := hg
      refine ⟨r, t, as, rows, n, q, rfl, hT.same S1, sq, ht, hq, hl, fun H2 p a b S2 hp ha hb => ?_⟩
      exact ⟨p, _, _, _, rfl, rfl, SqT.of hp, atI_one, k H2 b (S1.trans S2) hb⟩
    · exact .inr ⟨i, hb.1, hb.2.1, hb.2.2, fl⟩
end
end K7
end

section
-- K7Places
set_option Elab.async false
set_option linter.all false
set_option maxRecDepth 100000
set_option maxHeartbeats 4000000
/-! where neighbours merge; a folded queue. -/
namespace K7
open PySem PySem.Spec PyProof.Rows L2
/-- no two neighbours merge -/
def Folded (rows : Rw) (q : List Int) : Prop := ∀ i a b, q[i]? = some a → q[i + 1]? = some b → rows.at a b = none
def spPlacesOf : Sp := fun vs H Q _ => ∃ (r t : Addr) (as : List Addr) (rows : Rw) (n : Nat) (q : List Int), vs = [.ref r, .ref t] ∧ RT H r as rows ∧ Sq rows n ∧ H t = some (.tup (iV q)) ∧ Que n q ∧ q.length ≤ 10000 ∧ Folded rows q ∧
  ∀ H' p, Same H H' → H' p = some (.tup []) → Q (.ref p) H'
def spMergeable (C : Addr) : Sp := fun vs H Q _ => ∃ (m t : Addr) (n : Nat) (rows : Rw) (q : List Int), vs = [.ref m, .ref t] ∧ Mg C H m n rows ∧ Sq rows n ∧ H t = some (.tup (iV q)) ∧ Que n q ∧ q.length ≤ 10000 ∧ Folded rows q ∧
  ∀ H' p, Same H H' → H' p = some (.tup []) → Q (.ref p) H'
def spIsFolded (C : Addr) : Sp := fun vs H Q _ => ∃ (m t : Addr) (n : Nat) (rows : Rw) (q : List Int), vs = [.ref m, .ref t] ∧ Mg C H m n rows ∧ Sq rows n ∧ H t = some (.tup (iV q)) ∧ Que n q ∧ q.length ≤ 10000 ∧ Folded rows q ∧
  ∀ H', Same H H' → Q (.bl true) H'
section
variable {w : World} {K : PySem.W.Frag} {mg : Str → Option Value} {base : Heap} {C CQ CW CR : Addr}
abbrev scPON : List Str := ["rows", "queue", "at", "one", "other"]
theorem scPO : FnScope scPON ["rows", "queue"] (defScope sPlacesOf) := ⟨rfl, rfl, rfl, by decide +kernel, rfl, by decide +kernel, by decide +kernel⟩
theorem ok_placesOf (D : DefAt K mg "places_of" sPlacesOf) (T : Txt K mg C) : Keeps w K mg base CX0 "places_of" 1 ["rows", "queue"] spPlacesOf := by
  refine keeps0 D scPO (fun vs H Q E h => ?_) (fun _ _ _ _ _ _ us hl => match us, hl with | [_, _], _ => rfl) fun f cdv A outer s H vs Q E hr h => ?_
  · obtain ⟨r, t, as, rows, n, q, rfl, _⟩ := h
    rfl
  · obtain ⟨r, t, as, rows, n, q, rfl, hT, sq, ht, hq, hlen, hf, k⟩ := h
    refine ⟨_, (pss_one (ps_ret (pe_callTy (c_tuple K) (by rfl) T.tuple boot_tuple (pa_cons (pe_lc (own := [("at", 2), ("one", 3), ("other", 4)]) rfl scPO.nd (pi_enumZ (by rfl) T.enumerate (by rfl) T.zip (pa_cons (pv 1) (pa_cons (pe_slice sl_tupA (pv 1) (po_some pe_int) po_none) pa_nil))) (blkOk_by (own := [("at", 2), ("one", 3), ("other", 4)]) (N := scPON) (sc := defScope sPlacesOf) (by decide +kernel)) (fun _ _ _ _ _ => (pg_tupK K (n := 2) (by rfl) (pgs_cons (pg_name (i := 2) scPO.nd rfl (Or.inl rfl)) (pgs_cons (pg_tupK K (n := 2) (by rfl) (pgs_cons (pg_name (i := 3) scPO.nd rfl (Or.inl rfl)) (pgs_cons (pg_name (i := 4) scPO.nd rfl (Or.inl rfl)) pgs_nil))) pgs_nil)))) (fun _ _ _ _ _ => (pts_one (pt_cmpR op_notN (pe_ix (x_tup K) (pe_ix (x_tup K) (pv 0) (pv 3) (fun _ _ => rfl)) (pv 4) (fun _ _ => rfl)) pe_non (nomark _)))) (fun _ _ _ _ _ => (pv 2))) pa_nil)))), ?_⟩
    refine ⟨_, rfl, _, rfl, _, rfl, ?_⟩
    unfold tNoPart
    refine sl_any ht fun u H1 S1 hu => ?_
    rw [cut_drop _ (by decide : (0 : Int) ≤ 1), show ((1 : Int)).toNat = 1 from rfl, map_drop_iV] at hu
    refine ⟨t, u, _, _, rfl, SqT.of (S1 _ _ ht), SqT.of hu, fun dd hd => ?_⟩
    refine lc_it (walk_enumZ (K := K) (a := t) (b := u) (xs := iV q) (ys := iV (q.drop 1)) rfl) (fun i H' => Same H1 H' ∧ H1 dd = none ∧ H' dd = some (.lst [])) ⟨same_new hd, hd, upd_same⟩
      (fun i H' _ z => ⟨SqT.of (z.1 _ _ (S1 _ _ ht)), SqT.of (z.1 _ _ hu)⟩) (fun i x H2 H2' hi ⟨z1, z2, z3⟩ y => ?_) fun H2 ⟨z1, z2, z3⟩ => ?_
    · obtain ⟨t1, t2, x, y, rfl, n1, n2, n12, rfl, e1, e2⟩ := y
      obtain ⟨a, ha, rfl⟩ := map_item e1
      obtain ⟨b, hb, rfl⟩ := map_item e2
      have hb' : q[i + 1]? = some b := by rw [List.getElem?_drop] at hb; rw [Nat.add_comm]; exact hb
      have Z1 : Same H1 (upd (upd H2 t1 (.tup [V.int a, V.int b])) t2 (.tup [.int (i : Nat), .ref t1])) := (z1.new n1).new (by rw [upd_ne n12]; exact n2)
      have T2 : (upd (upd H2 t1 (.tup [V.int a, V.int b])) t2 (.tup [.int (i : Nat), .ref t1])) t2 = some (.tup [.int (i : Nat), .ref t1]) := upd_same
      have T1 : (upd (upd H2 t1 (.tup [V.int a, V.int b])) t2 (.tup [.int (i : Nat), .ref t1])) t1 = some (.tup [V.int a, V.int b]) := by rw [upd_ne n12.symm, upd_same]
      have Td : (upd (upd H2 t1 (.tup [V.int a, V.int b])) t2 (.tup [.int (i : Nat), .ref t1])) dd = some (.lst []) := by rw [upd_ne (ne_of_none z3 n2), upd_ne (ne_of_none z3 n1)]; exact z3
      generalize upd (upd H2 t1 (.tup [V.int a, V.int b])) t2 (.tup [.int (i : Nat), .ref t1]) = H3 at Z1 T2 T1 Td
      refine ⟨t2, _, rfl, SqT.of T2, rfl, _, _, rfl, _, _, rfl, ⟨t1, _, rfl, SqT.of T1, rfl, _, _, rfl, _, _, rfl, rfl, rfl, rfl, ?_⟩⟩
      have hT3 := hT.same (S1.trans Z1)
      obtain ⟨p1, w1, f1, f2, f3, _⟩ := hT3.get sq (hq.get ha) (hq.get hb')
      rw [hf i a b ha hb'] at f3
      refine ⟨_, rfl, _, rfl, r, _, _, _, rfl, rfl, SqT.of hT3.1, f1, _, rfl, p1, _, _, _, rfl, rfl, SqT.of f2, f3, rfl, _, rfl, ?_⟩
      exact iteF ⟨Z1, z2, Td⟩
    · exact ⟨dd, _, rfl, .inl ⟨SqL.of z3, fun l hl => k _ l ((S1.trans z1).new hl) upd_same⟩⟩
abbrev scMPN : List Str := ["merger", "queue"]
theorem scMP : FnScope scMPN ["merger", "queue"] (defScope sMergeablePlaces) := ⟨rfl, rfl, rfl, by decide +kernel, rfl, by decide +kernel, by decide +kernel⟩
theorem ok_mergeable (D : DefAt K mg "mergeable_places" sMergeablePlaces) (T : Txt K mg C) (G_check_queue : Keeps w K mg base (L2.CX Pg w) "check_queue" 4 ["merger", "value"] (spCheckQueue C CQ)) (G_places_of : Keeps w K mg base CX0 "places_of" 1 ["rows", "queue"] spPlacesOf) :
    Keeps w K mg base CX0 "mergeable_places" 5 ["merger", "queue"] (spMergeable C) := by
  refine keeps0 D scMP (fun vs H Q E h => ?_) (fun _ _ _ _ _ _ us hl => match us, hl with | [_, _], _ => rfl) fun f cdv A outer s H vs Q E hr h => ?_
  · obtain ⟨m, t, n, rows, q, rfl, _⟩ := h
    rfl
  · obtain ⟨m, t, n, rows, q, rfl, hM, sq, ht, hq, hlen, hf, k⟩ := h
    refine ⟨_, (pss_one (ps_ret (pe_k G_places_of rfl (hr.mono (by decide)) (by rfl) pass0 (pa_cons (pe_fld (pv 0) rfl) (pa_cons (pe_k G_check_queue rfl (hr.mono (by decide)) (by rfl) passL (pa_cons (pv 0) (pa_cons (pv 1) pa_nil))) pa_nil))))), ?_⟩
    have hM' := hM
    obtain ⟨dx, r, as, hm, hT⟩ := hM'
    refine ⟨_, rfl, m, C, dx, _, _, rfl, hm, T.cl, T.nR, fs_r, _, rfl, _, rfl, m, n, rows, .ref t, rfl, hM, .inl ⟨q, ⟨t, rfl, .inr ht, hq, hlen⟩, fun H1 u S1 hu => ?_⟩⟩
    exact ⟨r, u, as, rows, n, q, rfl, hT.same S1, sq, hu, hq, hlen, hf, fun H2 p S2 hp => k H2 p (S1.trans S2) hp⟩
abbrev scIFN : List Str := ["merger", "queue"]
theorem scIF : FnScope scIFN ["merger", "queue"] (defScope sIsFolded) := ⟨rfl, rfl, rfl, by decide +kernel, rfl, by decide +kernel, by decide +kernel⟩
theorem ok_isFolded (D : DefAt K mg "is_folded" sIsFolded) (T : Txt K mg C) (G_mergeable_places : Keeps w K mg base CX0 "mergeable_places" 5 ["merger", "queue"] (spMergeable C)) : Keeps w K mg base CX0 "is_folded" 6 ["merger", "queue"] (spIsFolded C) := by
  refine keeps0 D scIF (fun vs H Q E h => ?_) (fun _ _ _ _ _ _ us hl => match us, hl with | [_, _], _ => rfl) fun f cdv A outer s H vs Q E hr h => ?_
  · obtain ⟨m, t, n, rows, q, rfl, _⟩ := h
    rfl
  · obtain ⟨m, t, n, rows, q, rfl, hM, sq, ht, hq, hlen, hf, k⟩ := h
    refine ⟨_, (pss_one (ps_ret (pe_cmpR op_eq (pe_callB (c_len K) (by rfl) T.len PySem.boot_len (pa_cons (pe_k G_mergeable_places rfl (hr.mono (by decide)) (by rfl) pass0 (pa_cons (pv 0) (pa_cons (pv 1) pa_nil))) pa_nil)) pe_int (nomark _)))), ?_⟩
    refine ⟨_, rfl, _, rfl, m, t, n, rows, q, rfl, hM, sq, ht, hq, hlen, hf, fun H1 p S1 hp => ?_⟩
    exact ⟨p, _, rfl, .inr (SqT.of hp), rfl, k H1 S1⟩
end
end K7
end

section
-- K7Box
set_option Elab.async false
set_option linter.all false
set_option maxRecDepth 100000
set_option maxHeartbeats 4000000
/-! the law's draws. -/
namespace K7
open PySem PySem.Spec PyProof.Rows L2
def Bx (H : Hp) (b : Addr) : Prop := ∃ g r : Int, H b = some (.lst [.int g, .int r]) ∧ 0 ≤ g ∧ 0 ≤ r ∧ r ≤ 2147483587
theorem fmod_pos {a b : Int} (h : 0 < b) : 0 ≤ a.fmod b ∧ a.fmod b < b := by
  rw [Int.fmod_eq_emod_of_nonneg a (by omega)]
  exact ⟨Int.emod_nonneg a (by omega), Int.emod_lt_of_pos a h⟩
theorem fdiv_nonneg {a b : Int} (h : 0 ≤ a) (hb : 0 < b) : 0 ≤ a.fdiv b := by
  rw [Int.fdiv_eq_ediv_of_nonneg a (by omega)]
  exact Int.ediv_nonneg h (by omega)
def spLBox (K : PySem.W.Frag) : Sp := fun vs H Q _ => ∃ (a : Addr) (ns : List Int) (k : Nat), vs = [.ref a, .int (k : Nat)] ∧ SqL K H a (ns.map V.int) ∧ k ≤ 3 ∧ ns.length ≤ 63 ∧ ∀ H' p, Same H H' → H p = none → Bx H' p → Q (.ref p) H'
def spLTake : Sp := fun vs H Q _ => ∃ (b : Addr) (m : Nat), vs = [.ref b, .int (m : Nat)] ∧ Bx H b ∧ 1 ≤ m ∧ m ≤ 1000000 ∧ ∀ (d : Nat) H', d < m → Keep b H H' → Bx H' b → Q (.int (d : Nat)) H'
def spLPick : Sp := fun vs H Q _ => ∃ (b l : Addr) (xs : List V), vs = [.ref b, .ref l] ∧ Bx H b ∧ H l = some (.lst xs) ∧ l ≠ b ∧ 1 ≤ xs.length ∧ xs.length ≤ 10000 ∧ ∀ x H', x ∈ xs → Keep b H H' → Bx H' b → Q x H'
section
variable {w : World} {K : PySem.W.Frag} {mg : Str → Option Value} {base : Heap} {C CQ CW CR : Addr}
theorem nat_of {d : Int} {m : Nat} (h : 0 ≤ d ∧ d < (m : Nat)) : ∃ k : Nat, d = (k : Nat) ∧ k < m := by
  obtain ⟨k, rfl⟩ := Int.eq_ofNat_of_zero_le h.1
  exact ⟨k, rfl, by omega⟩
abbrev scLTN : List Str := ["_law_box_here", "_law_many", "_law_digit", "_law_raw"]
theorem scLT : FnScope scLTN ["_law_box_here", "_law_many"] (defScope sLTake) := ⟨rfl, rfl, rfl, by decide +kernel, rfl, by decide +kernel, by decide +kernel⟩
theorem ok_take (D : DefAt K mg "_law_take" sLTake) (T : Txt K mg C) : Keeps w K mg base CX0 "_law_take" 1 ["_law_box_here", "_law_many"] spLTake := by
  refine keeps0 D scLT (fun vs H Q E h => ?_) (fun _ _ _ _ _ _ us hl => match us, hl with | [_, _], _ => rfl) fun f cdv A outer s H vs Q E hr h => ?_
  · obtain ⟨b, m, rfl, _⟩ := h
    rfl
  · obtain ⟨b, m, rfl, ⟨g, r, hb, g0, r0, r1⟩, m1, m2, k⟩ := h
    refine ⟨_, (pss_cons (ps_if (pt_cmpR op_gt (pe_ix (x_list K) (pv 0) pe_int (fun _ _ => rfl)) pe_int (nomark _)) (pss_cons (ps_set (i := 2) scLT.nd rfl (Or.inl rfl) (pe_op op_modN (pe_callTy call_int1 (by rfl) T.int boot_int (pa_cons (pe_ix (x_list K) (pv 0) pe_int (fun _ _ => rfl)) pa_nil)) (pv 1)))
      (pss_cons (ps_asg (pe_op op_fdivN (pe_ix (x_list K) (pv 0) pe_int (fun _ _ => rfl)) (pv 1)) (pg_sub (pv 0) pe_int set_list))
      (pss_one (ps_ret (pv 2))))) pss_nil)
      (pss_cons (ps_set (i := 3) scLT.nd rfl (Or.inl rfl) (pe_op op_modN (pe_callTy call_int1 (by rfl) T.int boot_int (pa_cons (pe_op op_add (pe_op op_mul (pe_ix (x_list K) (pv 0) pe_int (fun _ _ => rfl)) pe_int) pe_int) pa_nil)) pe_int))
      (pss_cons (ps_asg (pe_op op_add (pe_op op_modN (pe_callTy call_int1 (by rfl) T.int boot_int (pa_cons (pe_op op_add (pe_op op_mul (pv 3) pe_int) pe_int) pa_nil)) pe_int) pe_int) (pg_sub (pv 0) pe_int set_list))
      (pss_one (ps_ret (pe_op op_modN (pe_callTy call_int1 (by rfl) T.int boot_int (pa_cons (pe_op op_fdivN (pe_op op_add (pe_op op_mul (pv 3) pe_int) (pe_ix (x_list K) (pv 0) pe_int (fun _ _ => rfl))) pe_int) pa_nil)) (pv 1))))))), ?_⟩
    refine ⟨_, rfl, b, _, _, _, rfl, rfl, SqL.of hb, atI_zero, _, _, rfl, rfl, _, rfl, ?_⟩
    refine ite2 (fun hg => ?_) (fun hg => ?_)
    · refine ⟨_, rfl, b, _, _, _, rfl, rfl, SqL.of hb, atI_zero, .inl ⟨_, rfl, ?_⟩⟩
      refine ⟨_, rfl, _, _, rfl, rfl, by show ((m : Nat) : Int) ≠ 0; omega, ?_⟩
      refine ⟨_, rfl, b, _, _, _, rfl, rfl, SqL.of hb, atI_zero, _, rfl, _, _, rfl, rfl, ⟨by omega, by omega⟩, ?_⟩
      refine ⟨_, rfl, b, _, _, 0, rfl, rfl, hb, rfl, ?_⟩
      obtain ⟨d, e, hd⟩ := nat_of (fmod_pos (a := g) (b := (m : Nat)) (by omega))
      refine ⟨_, rfl, ?_⟩
      show Q (.int (g.fmod (m : Nat))) _
      rw [e]
      exact k d _ hd keep_upd ⟨_, _, upd_same, fdiv_nonneg g0 (by omega), r0, r1⟩
    · have h1 := fmod_pos (a := r * 40692 + 97) (b := 2147483399) (by decide)
      have h2 := fmod_pos (a := (r * 40692 + 97).fmod 2147483399 * 40014 + 11) (b := 2147483587) (by decide)
      have n1 : (2147483399 : Int) ≠ 0 := by decide
      have n2 : (2147483587 : Int) ≠ 0 := by decide
      refine ⟨_, rfl, b, _, _, _, rfl, rfl, SqL.of hb, atI_one, _, _, rfl, rfl, .inl ⟨by omega, by omega⟩, _, _, rfl, rfl, .inl ⟨_, rfl, _, _, rfl, rfl, n1, ?_⟩⟩
      refine ⟨_, rfl, _, _, rfl, rfl, .inl ⟨by omega, by omega⟩, _, _, rfl, rfl, .inl ⟨_, rfl, _, _, rfl, rfl, n2, ?_⟩⟩
      refine ⟨_, _, rfl, rfl, ?_⟩
      refine ⟨_, rfl, b, _, _, 1, rfl, rfl, hb, rfl, ?_⟩
      refine ⟨_, rfl, _, _, rfl, rfl, .inl ⟨by omega, by omega⟩, _, rfl, b, _, _, _, rfl, rfl, SqL.of upd_same, rfl, _, _, rfl, rfl, _, _, rfl, rfl, ⟨by decide, by decide⟩, .inl ⟨_, rfl, ?_⟩⟩
      refine ⟨_, rfl, _, _, rfl, rfl, by show ((m : Nat) : Int) ≠ 0; omega, ?_⟩
      obtain ⟨d, e, hd⟩ := nat_of (fmod_pos (a := (((r * 40692 + 97).fmod 2147483399 * 2147483629 + (((r * 40692 + 97).fmod 2147483399 * 40014 + 11).fmod 2147483587 + 1)).fdiv 8209)) (b := (m : Nat)) (by omega))
      show Q (.int ((((r * 40692 + 97).fmod 2147483399 * 2147483629 + (((r * 40692 + 97).fmod 2147483399 * 40014 + 11).fmod 2147483587 + 1)).fdiv 8209).fmod (m : Nat))) _
      rw [e]
      exact k d _ hd keep_upd ⟨_, _, upd_same, g0, by omega, by omega⟩
abbrev scLPN : List Str := ["_law_box_here", "_law_some"]
theorem scLP : FnScope scLPN ["_law_box_here", "_law_some"] (defScope sLPick) := ⟨rfl, rfl, rfl, by decide +kernel, rfl, by decide +kernel, by decide +kernel⟩
theorem ok_pick (D : DefAt K mg "_law_pick" sLPick) (T : Txt K mg C) (G__law_take : Keeps w K mg base CX0 "_law_take" 1 ["_law_box_here", "_law_many"] spLTake) : Keeps w K mg base CX0 "_law_pick" 2 ["_law_box_here", "_law_some"] spLPick := by
  refine keeps0 D scLP (fun vs H Q E h => ?_) (fun _ _ _ _ _ _ us hl => match us, hl with | [_, _], _ => rfl) fun f cdv A outer s H vs Q E hr h => ?_
  · obtain ⟨b, l, xs, rfl, _⟩ := h
    rfl
  · obtain ⟨b, l, xs, rfl, hb, hl, nlb, h1, h2, k⟩ := h
    refine ⟨_, (pss_one (ps_ret (pe_ix (x_list K) (pv 1) (pe_k G__law_take rfl (hr.mono (by decide)) (by rfl) pass0 (pa_cons (pv 0) (pa_cons (pe_callB (c_len K) (by rfl) T.len PySem.boot_len (pa_cons (pv 1) pa_nil)) pa_nil))) (fun _ _ => rfl)))), ?_⟩
    refine ⟨_, rfl, _, rfl, _, rfl, l, _, rfl, .inl (SqL.of hl), b, xs.length, rfl, hb, h1, by omega, fun d H1 hd K1 b1 => ?_⟩
    exact ⟨l, xs, _, _, rfl, rfl, SqL.of (K1 _ _ nlb hl), atI_nat (List.getElem?_eq_getElem hd), k _ H1 (List.getElem_mem hd) K1 b1⟩
abbrev scLBN : List Str := ["_law_script", "_law_k", "_law_cell", "_law_great"]
theorem scLB : FnScope scLBN ["_law_script", "_law_k"] (defScope sLBox) := ⟨rfl, rfl, rfl, by decide +kernel, rfl, by decide +kernel, by decide +kernel⟩
theorem ok_box (D : DefAt K mg "_law_box" sLBox) (T : Txt K mg C) : Keeps w K mg base CX0 "_law_box" 1 ["_law_script", "_law_k"] (spLBox K) := by
  refine keeps0 D scLB (fun vs H Q E h => ?_) (fun _ _ _ _ _ _ us hl => match us, hl with | [_, _], _ => rfl) fun f cdv A outer s H vs Q E hr h => ?_
  · obtain ⟨a, ns, k, rfl, _⟩ := h
    rfl
  · obtain ⟨a, ns, k, rfl, hS, k3, h63, q⟩ := h
    refine ⟨_, (pss_cons (ps_set (i := 2) scLB.nd rfl (Or.inl rfl) (pe_op op_add (pe_op op_mul pe_int (pv 1)) pe_int))
      (pss_cons (ps_if (pt_cmpR op_lt (pv 1) (pe_callB (c_len K) (by rfl) T.len PySem.boot_len (pa_cons (pv 0) pa_nil)) (nomark _)) (pss_one (ps_set (i := 2) scLB.nd rfl (Or.inl rfl) (pe_callB call_abs (by rfl) T.abs boot_abs (pa_cons (pe_callTy call_int1 (by rfl) T.int boot_int (pa_cons (pe_ix (x_list K) (pv 0) (pv 1) (fun _ _ => rfl)) pa_nil)) pa_nil)))) (pss_one (ps_if (pt_cmpR op_gt (pe_callB (c_len K) (by rfl) T.len PySem.boot_len (pa_cons (pv 0) pa_nil)) pe_int (nomark _)) (pss_one (ps_set (i := 2) scLB.nd rfl (Or.inl rfl) (pe_op op_add (pv 2) (pe_op op_mul (pe_op op_modN (pe_callTy call_int1 (by rfl) T.int boot_int (pa_cons (pe_callB call_abs (by rfl) T.abs boot_abs (pa_cons (pe_callTy call_int1 (by rfl) T.int boot_int (pa_cons (pe_ix (x_list K) (pv 0) (pe_op op_modN (pe_callTy call_int1 (by rfl) T.int boot_int (pa_cons (pv 1) pa_nil)) (pe_callB (c_len K) (by rfl) T.len PySem.boot_len (pa_cons (pv 0) pa_nil))) (fun _ _ => rfl)) pa_nil)) pa_nil)) pa_nil)) pe_int) pe_int)))) pss_nil)))
      (pss_cons (ps_set (i := 3) scLB.nd rfl (Or.inl rfl) (pe_ifExp (pt_cmpR op_ge (pv 2) (pe_op op_pow pe_int pe_int) (nomark _)) (pv 2) pe_int))
      (pss_one (ps_ret (pe_lst (pa_cons (pv 3) (pa_cons (pe_op op_add (pe_op op_modN (pe_callTy call_int1 (by rfl) T.int boot_int (pa_cons (pe_op op_add (pe_op op_mul (pe_op op_modN (pe_callTy call_int1 (by rfl) T.int boot_int (pa_cons (pv 2) pa_nil)) pe_int) pe_int) (pe_op op_mul pe_int (pv 1))) pa_nil)) pe_int) pe_int) pa_nil)))))))), ?_⟩
    have fin : ∀ (c : Int), 0 ≤ c → ∀ p, H p = none → ∀ g : Int, (g = c ∨ g = 0) → Q (.ref p) (upd H p (.lst [.int g, .int ((c.fmod 2147483587 * 69069 + 691 * (k : Nat)).fmod 2147483587 + 1)])) := fun c hc p hp g hg => by
      have h1 := fmod_pos (a := c.fmod 2147483587 * 69069 + 691 * (k : Nat)) (b := 2147483587) (by decide)
      exact q _ p (same_new hp) hp ⟨_, _, upd_same, by rcases hg with rfl | rfl <;> omega, by omega, by omega⟩
    have item : ∀ i : Nat, i < ns.length → atI (ns.map V.int) ((i : Nat) : Int) = some (.int (ns.getD i 0)) := fun i hi => by
      refine atI_nat ?_
      rw [List.getElem?_map, List.getElem?_eq_getElem hi, List.getD_eq_getElem?_getD, List.getElem?_eq_getElem hi]
      rfl
    have len : (ns.map V.int).length = ns.length := List.length_map ..
    have abs0 : ∀ z : Int, 0 ≤ (if z < 0 then -z else z) := fun z => by split <;> omega
    have n2 : (2147483587 : Int) ≠ 0 := by decide
    refine ⟨_, rfl, _, _, rfl, rfl, .inl ⟨by decide, by decide⟩, _, _, rfl, rfl, ?_⟩
    refine ⟨_, rfl, _, rfl, a, _, rfl, .inl hS, _, _, rfl, rfl, _, rfl, ?_⟩
    refine ite2 (fun h => ?_) (fun h => ?_)
    · have h' : k < ns.length := by have := of_decide_eq_true h; rw [len] at this; omega
      refine ⟨_, rfl, _, rfl, a, _, _, _, rfl, rfl, hS, item k h', .inl ⟨_, rfl, ⟨_, rfl, ?_⟩⟩⟩
      have c0 := abs0 (ns.getD k 0)
      generalize (if ns.getD k 0 < 0 then -ns.getD k 0 else ns.getD k 0) = c at c0 ⊢
      have cb := fmod_pos (a := c) (b := 2147483587) (by decide)
      refine ⟨_, rfl, _, _, rfl, rfl, ⟨by decide, by decide, by decide⟩, _, _, rfl, rfl, _, rfl, ?_⟩
      refine ite2 (fun _ => ?_) (fun _ => ?_)
      · refine ⟨_, rfl, ?_⟩
        refine ⟨_, rfl, _, rfl, .inl ⟨_, rfl, _, _, rfl, rfl, n2, _, _, rfl, rfl, .inl ⟨by omega, by omega⟩, _, rfl, _, _, rfl, rfl, .inl ⟨by decide, by decide⟩, _, _, rfl, rfl, .inl ⟨_, rfl, _, _, rfl, rfl, n2, _, _, rfl, rfl, by show 2 ≤ sizeLine; decide, fun p hp => ?_⟩⟩⟩
        exact fin c c0 p hp _ (.inl rfl)
      · refine ⟨_, rfl, _, rfl, .inl ⟨_, rfl, _, _, rfl, rfl, n2, _, _, rfl, rfl, .inl ⟨by omega, by omega⟩, _, rfl, _, _, rfl, rfl, .inl ⟨by decide, by decide⟩, _, _, rfl, rfl, .inl ⟨_, rfl, _, _, rfl, rfl, n2, _, _, rfl, rfl, by show 2 ≤ sizeLine; decide, fun p hp => ?_⟩⟩⟩
        exact fin c c0 p hp _ (.inr rfl)
    · refine ⟨_, rfl, a, _, rfl, .inl hS, _, _, rfl, rfl, _, rfl, ?_⟩
      refine ite2 (fun h2 => ?_) (fun h2 => ?_)
      · have hn : 0 < ns.length := by have := of_decide_eq_true h2; rw [len] at this; omega
        have nl : ((ns.map V.int).length : Int) ≠ 0 := by rw [len]; omega
        obtain ⟨j, ej, hj⟩ := nat_of (fmod_pos (a := ((k : Nat) : Int)) (b := ((ns.map V.int).length : Nat)) (by rw [len]; omega))
        rw [len] at hj
        refine ⟨_, rfl, _, rfl, _, rfl, .inl ⟨_, rfl, _, rfl, a, _, rfl, .inl hS, _, _, rfl, rfl, nl, a, _, _, _, rfl, rfl, hS, (congrArg (atI (ns.map V.int)) ej).trans (item j hj), .inl ⟨_, rfl, _, rfl, .inl ⟨_, rfl, _, _, rfl, rfl, n2, _, _, rfl, rfl, ?_⟩⟩⟩⟩
        have cb0 := fmod_pos (a := (if ns.getD j 0 < 0 then -ns.getD j 0 else ns.getD j 0)) (b := 2147483587) (by decide)
        refine ⟨.inl ⟨by omega, by omega⟩, _, _, rfl, rfl, ?_⟩
        have c0 : 0 ≤ 6501 * ((k : Nat) : Int) + 691 + (if ns.getD j 0 < 0 then -ns.getD j 0 else ns.getD j 0).fmod 2147483587 * 52201 := by omega
        have cb := fmod_pos (a := (6501 * ((k : Nat) : Int) + 691 + (if ns.getD j 0 < 0 then -ns.getD j 0 else ns.getD j 0).fmod 2147483587 * 52201)) (b := 2147483587) (by decide)
        refine ⟨_, rfl, _, _, rfl, rfl, ⟨by decide, by decide, by decide⟩, _, _, rfl, rfl, _, rfl, ?_⟩
        refine ite2 (fun _ => ?_) (fun _ => ?_)
        · refine ⟨_, rfl, ?_⟩
          refine ⟨_, rfl, _, rfl, .inl ⟨_, rfl, _, _, rfl, rfl, n2, _, _, rfl, rfl, .inl ⟨by omega, by omega⟩, _, rfl, _, _, rfl, rfl, .inl ⟨by decide, by decide⟩, _, _, rfl, rfl, .inl ⟨_, rfl, _, _, rfl, rfl, n2, _, _, rfl, rfl, by show 2 ≤ sizeLine; decide, fun p hp => ?_⟩⟩⟩
          exact fin (6501 * ((k : Nat) : Int) + 691 + (if ns.getD j 0 < 0 then -ns.getD j 0 else ns.getD j 0).fmod 2147483587 * 52201) c0 p hp _ (.inl rfl)
        · refine ⟨_, rfl, _, rfl, .inl ⟨_, rfl, _, _, rfl, rfl, n2, _, _, rfl, rfl, .inl ⟨by omega, by omega⟩, _, rfl, _, _, rfl, rfl, .inl ⟨by decide, by decide⟩, _, _, rfl, rfl, .inl ⟨_, rfl, _, _, rfl, rfl, n2, _, _, rfl, rfl, by show 2 ≤ sizeLine; decide, fun p hp => ?_⟩⟩⟩
          exact fin (6501 * ((k : Nat) : Int) + 691 + (if ns.getD j 0 < 0 then -ns.getD j 0 else ns.getD j 0).fmod 2147483587 * 52201) c0 p hp _ (.inr rfl)
      · have c0 : 0 ≤ 6501 * ((k : Nat) : Int) + 691 := by omega
        have cb := fmod_pos (a := (6501 * ((k : Nat) : Int) + 691)) (b := 2147483587) (by decide)
        refine ⟨_, rfl, _, _, rfl, rfl, ⟨by decide, by decide, by decide⟩, _, _, rfl, rfl, _, rfl, ?_⟩
        refine ite2 (fun _ => ?_) (fun _ => ?_)
        · refine ⟨_, rfl, ?_⟩
          refine ⟨_, rfl, _, rfl, .inl ⟨_, rfl, _, _, rfl, rfl, n2, _, _, rfl, rfl, .inl ⟨by omega, by omega⟩, _, rfl, _, _, rfl, rfl, .inl ⟨by decide, by decide⟩, _, _, rfl, rfl, .inl ⟨_, rfl, _, _, rfl, rfl, n2, _, _, rfl, rfl, by show 2 ≤ sizeLine; decide, fun p hp => ?_⟩⟩⟩
          exact fin (6501 * ((k : Nat) : Int) + 691) c0 p hp _ (.inl rfl)
        · refine ⟨_, rfl, _, rfl, .inl ⟨_, rfl, _, _, rfl, rfl, n2, _, _, rfl, rfl, .inl ⟨by omega, by omega⟩, _, rfl, _, _, rfl, rfl, .inl ⟨by decide, by decide⟩, _, _, rfl, rfl, .inl ⟨_, rfl, _, _, rfl, rfl, n2, _, _, rfl, rfl, by show 2 ≤ sizeLine; decide, fun p hp => ?_⟩⟩⟩
          exact fin (6501 * ((k : Nat) : Int) + 691) c0 p hp _ (.inr rfl)
end
end K7
end

section
-- K7LawA
set_option Elab.async false
set_option linter.all false
set_option maxRecDepth 100000
set_option maxHeartbeats 4000000
/-! the law's own ends, soundness, queue, hand. -/
namespace K7
open PySem PySem.Spec PyProof.Rows L2
def spLEnd : Sp := fun vs H Q _ => ∃ (r : Addr) (as : List Addr) (rows : Rw) (n : Nat) (x y : Int), vs = [.ref r, .int x, .int y] ∧ RL H r as rows ∧ Sq rows n ∧ (x = -1 ∨ Com n x) ∧ (y = -1 ∨ Com n y) ∧ Q (eV (endOf rows x y)) H
def spLIsSound : Sp := fun vs H Q _ => ∃ (r : Addr) (as : List Addr) (rows : Rw) (n : Nat), vs = [.ref r] ∧ RL H r as rows ∧ Sq rows n ∧ ∀ b : Bool, (b = true → Sound rows n) → Q (.bl b) H
def spLQueue : Sp := fun vs H Q _ => ∃ (b : Addr) (n m : Nat), vs = [.ref b, .int (n : Nat), .int (m : Nat)] ∧ Bx H b ∧ 1 ≤ n ∧ n ≤ 12 ∧ m ≤ 30 ∧ ∀ H' p q, Keep b H H' → Bx H' b → H' p = some (.tup (iV q)) → Que n q → q.length ≤ 30 → Q (.ref p) H'
def spLOnce : Sp := fun vs H Q _ => ∃ (r t : Addr) (as : List Addr) (rows : Rw) (n : Nat) (q : List Int) (i : Nat), vs = [.ref r, .ref t, .int (i : Nat)] ∧ RL H r as rows ∧ Sq rows n ∧ H t = some (.tup (iV q)) ∧ Que n q ∧ q.length ≤ 10000 ∧ Can rows q i ∧
  ∀ H' p, Same H H' → H' p = some (.tup (iV (once rows q i))) → Q (.ref p) H'
theorem sound_of {rows : Rw} {n : Nat} {a b c x y : Int} (ha : Com n a) (hc : Com n c) (e1 : rows.at a b = some x) (e2 : rows.at b c = some y) (h : endOf rows x c = endOf rows a y) : Sound3 rows a b c := by
  intro x' y' h1 h2
  rw [e1] at h1; cases h1
  rw [e2] at h2; cases h2
  have ha1 : a ≠ -1 := by have := ha.1; omega
  have hc1 : c ≠ -1 := by have := hc.1; omega
  unfold endOf at h
  rw [if_neg hc1, if_neg ha1] at h
  exact h
theorem sound_no {rows : Rw} {a b c : Int} (h : rows.at a b = none ∨ rows.at b c = none) : Sound3 rows a b c := by
  intro x y h1 h2
  rcases h with h | h
  · rw [h] at h1; cases h1
  · rw [h] at h2; cases h2
section
variable {w : World} {K : PySem.W.Frag} {mg : Str → Option Value} {base : Heap} {C CQ CW CR : Addr}
abbrev scLEN : List Str := ["_law_rows_here", "_law_one", "_law_other"]
theorem scLE : FnScope scLEN ["_law_rows_here", "_law_one", "_law_other"] (defScope sLEnd) := ⟨rfl, rfl, rfl, by decide +kernel, rfl, by decide +kernel, by decide +kernel⟩
theorem ok_lend (D : DefAt K mg "_law_end" sLEnd) (T : Txt K mg C) : Keeps w K mg base CX0 "_law_end" 1 ["_law_rows_here", "_law_one", "_law_other"] spLEnd := by
  refine keeps0 D scLE (fun vs H Q E h => ?_) (fun _ _ _ _ _ _ us hl => match us, hl with | [_, _, _], _ => rfl) fun f cdv A outer s H vs Q E hr h => ?_
  · obtain ⟨r, as, rows, n, x, y, rfl, _⟩ := h
    rfl
  · obtain ⟨r, as, rows, n, x, y, rfl, hL, sq, hx, hy, k⟩ := h
    refine ⟨_, (pss_cons (ps_if (PW.pt (pw_or (pt_cmpR op_eq (pv 1) (pe_op op_sub pe_int pe_int) (nomark _)) (pw_or1 (pt_cmpR op_eq (pv 2) (pe_op op_sub pe_int pe_int) (nomark _))))) (pss_one (ps_ret (pe_ifExp (pt_cmpR op_eq (pv 1) (pe_op op_sub pe_int pe_int) (nomark _)) (pv 2) (pv 1)))) pss_nil)
      (pss_one (ps_ret (pe_ix (x_list K) (pe_ix (x_list K) (pv 0) (pv 1) (fun _ _ => rfl)) (pv 2) (fun _ _ => rfl))))), ?_⟩
    refine ⟨_, rfl, _, _, rfl, rfl, rfl, _, rfl, ?_⟩
    have e0 : ∀ z : Int, decide (V.int z = V.int (0 - 1)) = decide (z = -1) := fun z => by simp
    show if decide (V.int x = V.int (0 - 1)) = true then _ else _
    rw [e0]
    by_cases h1 : x = -1
    · subst h1
      refine iteT (iteT ⟨_, rfl, _, _, rfl, rfl, rfl, _, rfl, ?_⟩)
      refine iteT ⟨_, rfl, ?_⟩
      exact k
    · rw [decide_eq_false h1]
      refine iteF ⟨_, rfl, _, _, rfl, rfl, rfl, _, rfl, ?_⟩
      show if decide (V.int y = V.int (0 - 1)) = true then _ else _
      rw [e0]
      by_cases h2 : y = -1
      · subst h2
        refine iteT ⟨_, rfl, _, _, rfl, rfl, rfl, _, rfl, ?_⟩
        show if decide (V.int x = V.int (0 - 1)) = true then _ else _
        rw [e0, decide_eq_false h1]
        refine iteF ⟨_, rfl, ?_⟩
        have e : endOf rows x (-1) = some x := by unfold endOf; rw [if_neg h1, if_pos rfl]
        rw [e] at k
        exact k
      · rw [decide_eq_false h2]
        obtain ⟨p1, w1, f1, f2, f3, _⟩ := hL.get sq (hx.resolve_left h1) (hy.resolve_left h2)
        refine iteF ⟨_, rfl, _, rfl, r, _, _, _, rfl, rfl, SqL.of hL.1, f1, _, rfl, p1, _, _, _, rfl, rfl, SqL.of f2, f3, ?_⟩
        have e : endOf rows x y = rows.at x y := by unfold endOf; rw [if_neg h1, if_neg h2]
        rw [e] at k
        exact k
abbrev scLSN : List Str := ["_law_rows_here", "_law_one", "_law_two", "_law_three"]
theorem scLS : FnScope scLSN ["_law_rows_here"] (defScope sLIsSound) := ⟨rfl, rfl, rfl, by decide +kernel, rfl, by decide +kernel, by decide +kernel⟩
theorem ok_lsound (D : DefAt K mg "_law_is_sound" sLIsSound) (T : Txt K mg C) (G__law_end : Keeps w K mg base CX0 "_law_end" 1 ["_law_rows_here", "_law_one", "_law_other"] spLEnd) : Keeps w K mg base CX0 "_law_is_sound" 2 ["_law_rows_here"] spLIsSound := by
  refine keeps0 D scLS (fun vs H Q E h => ?_) (fun _ _ _ _ _ _ us hl => match us, hl with | [_], _ => rfl) fun f cdv A outer s H vs Q E hr h => ?_
  · obtain ⟨r, as, rows, n, rfl, _⟩ := h
    rfl
  · obtain ⟨r, as, rows, n, rfl, hL, sq, k⟩ := h
    refine ⟨_, (pss_cons (ps_for PassesOwn.never rfl (pi_range1 (by rfl) T.range (pa_cons (pe_callB (c_len K) (by rfl) T.len PySem.boot_len (pa_cons (pv 0) pa_nil)) pa_nil)) (pg_name (i := 1) scLS.nd rfl (Or.inl rfl)) (pss_one (ps_for PassesOwn.never rfl (pi_range1 (by rfl) T.range (pa_cons (pe_callB (c_len K) (by rfl) T.len PySem.boot_len (pa_cons (pv 0) pa_nil)) pa_nil)) (pg_name (i := 2) scLS.nd rfl (Or.inl rfl)) (pss_one (ps_for PassesOwn.never rfl (pi_range1 (by rfl) T.range (pa_cons (pe_callB (c_len K) (by rfl) T.len PySem.boot_len (pa_cons (pv 0) pa_nil)) pa_nil)) (pg_name (i := 3) scLS.nd rfl (Or.inl rfl)) (pss_one (ps_if (PW.pt (pw_and (pt_cmpR op_notN (pe_ix (x_list K) (pe_ix (x_list K) (pv 0) (pv 1) (fun _ _ => rfl)) (pv 2) (fun _ _ => rfl)) pe_non (nomark _)) (pw_and1 (pt_cmpR op_notN (pe_ix (x_list K) (pe_ix (x_list K) (pv 0) (pv 2) (fun _ _ => rfl)) (pv 3) (fun _ _ => rfl)) pe_non (nomark _))))) (pss_one (ps_if (pt_cmpR op_ne (pe_k G__law_end rfl (hr.mono (by decide)) (by rfl) pass0 (pa_cons (pv 0) (pa_cons (pe_ix (x_list K) (pe_ix (x_list K) (pv 0) (pv 1) (fun _ _ => rfl)) (pv 2) (fun _ _ => rfl)) (pa_cons (pv 3) pa_nil)))) (pe_k G__law_end rfl (hr.mono (by decide)) (by rfl) pass0 (pa_cons (pv 0) (pa_cons (pv 1) (pa_cons (pe_ix (x_list K) (pe_ix (x_list K) (pv 0) (pv 2) (fun _ _ => rfl)) (pv 3) (fun _ _ => rfl)) pa_nil)))) (nomark _)) (pss_one (ps_ret pe_bl)) pss_nil)) pss_nil)))))))
      (pss_one (ps_ret pe_bl))), ?_⟩
    have len := lenR sq hL.2.1
    have n12 := sq.most
    have ln : (((as.map V.ref).length : Nat) : Int).toNat = n := by rw [len]; omega
    have com : ∀ {i : Nat}, i < n → Com n (0 + (i : Int)) := fun h => ⟨by omega, by omega⟩
    have e0 : ∀ i : Nat, (0 + (i : Int)) = (i : Int) := fun i => by omega
    have cast : ∀ a : Int, Com n a → ∃ i : Nat, a = (i : Nat) ∧ i < n := fun a h => nat_of ⟨h.1, h.2⟩
    refine ⟨_, rfl, r, _, rfl, .inl (SqL.of hL.1), _, rfl, by rw [len]; omega, by rw [len]; omega, for_range (lo := 0) (n := ((((as.map V.ref).length : Nat) : Int)).toNat) (fun i σ H' => (∃ a b c, σ = [some (.ref r), a, b, c]) ∧ H' = H ∧ ∀ a b c : Nat, a < i → b < n → c < n → Sound3 rows a b c)
      ⟨⟨_, _, _, rfl⟩, rfl, fun a b c h => absurd h (Nat.not_lt_zero _)⟩ (fun i σ H' hi ⟨⟨x1, x2, x3, e⟩, eH, so⟩ => ?_) fun σ H' ⟨⟨x1, x2, x3, e⟩, eH, so⟩ => ?_⟩
    · subst e; subst eH
      rw [ln] at hi
      refine ⟨_, rfl, r, _, rfl, .inl (SqL.of hL.1), _, rfl, by rw [len]; omega, by rw [len]; omega, for_range (lo := 0) (n := ((((as.map V.ref).length : Nat) : Int)).toNat) (fun j σ H'' => (∃ b c, σ = [some (.ref r), some (.int (0 + (i : Int))), b, c]) ∧ H'' = H' ∧ ∀ b c : Nat, b < j → c < n → Sound3 rows i b c)
        ⟨⟨_, _, rfl⟩, rfl, fun b c h => absurd h (Nat.not_lt_zero _)⟩ (fun j σ H2 hj ⟨⟨x2, x3, e⟩, eH, so2⟩ => ?_) fun σ H2 ⟨⟨x2, x3, e⟩, eH, so2⟩ => ?_⟩
      · subst e; subst eH
        rw [ln] at hj
        refine ⟨_, rfl, r, _, rfl, .inl (SqL.of hL.1), _, rfl, by rw [len]; omega, by rw [len]; omega, for_range (lo := 0) (n := ((((as.map V.ref).length : Nat) : Int)).toNat) (fun l σ H'' => (∃ c, σ = [some (.ref r), some (.int (0 + (i : Int))), some (.int (0 + (j : Int))), c]) ∧ H'' = H2 ∧ ∀ c : Nat, c < l → Sound3 rows i j c)
          ⟨⟨_, rfl⟩, rfl, fun c h => absurd h (Nat.not_lt_zero _)⟩ (fun l σ H3 hl ⟨⟨x3, e⟩, eH, so3⟩ => ?_) fun σ H3 ⟨⟨x3, e⟩, eH, so3⟩ => ?_⟩
        · subst e; subst eH
          rw [ln] at hl
          have next : Sound3 rows i j l → (∃ c, [some (V.ref r), some (.int (0 + (i : Int))), some (.int (0 + (j : Int))), some (.int (0 + (l : Int)))] = [some (V.ref r), some (.int (0 + (i : Int))), some (.int (0 + (j : Int))), c]) ∧ H3 = H3 ∧ ∀ c : Nat, c < l + 1 → Sound3 rows i j c := fun h => ⟨⟨_, rfl⟩, rfl, fun c hc => by
            by_cases z : c < l
            · exact so3 c z
            · have : c = l := by omega
              subst this; exact h⟩
          obtain ⟨p1, w1, f1, f2, f3, _⟩ := hL.get sq (com hi) (com hj)
          obtain ⟨p2, w2, g1, g2, g3, _⟩ := hL.get sq (com hj) (com hl)
          refine ⟨_, rfl, _, rfl, r, _, _, _, rfl, rfl, SqL.of hL.1, f1, _, rfl, p1, _, _, _, rfl, rfl, SqL.of f2, f3, rfl, _, rfl, ?_⟩
          rw [eV_non]
          cases e1 : rows.at (0 + (i : Int)) (0 + (j : Int)) with
          | none =>
            refine iteF (iteF (next (sound_no (.inl ?_))))
            rw [← e0 i, ← e0 j]; exact e1
          | some x =>
            refine iteT ⟨_, rfl, _, rfl, r, _, _, _, rfl, rfl, SqL.of hL.1, g1, _, rfl, p2, _, _, _, rfl, rfl, SqL.of g2, g3, rfl, _, rfl, ?_⟩
            rw [eV_non]
            cases e2 : rows.at (0 + (j : Int)) (0 + (l : Int)) with
            | none =>
              refine iteF (next (sound_no (.inr ?_)))
              rw [← e0 j, ← e0 l]; exact e2
            | some y =>
              have f3' := f3
              have g3' := g3
              rw [e1] at f3'
              rw [e2] at g3'
              have cx : x = -1 ∨ Com n x := by
                by_cases z : x = -1
                · exact .inl z
                · exact .inr (sq.com (com hi) (com hj) e1 z)
              have cy : y = -1 ∨ Com n y := by
                by_cases z : y = -1
                · exact .inl z
                · exact .inr (sq.com (com hj) (com hl) e2 z)
              refine iteT ⟨_, rfl, _, rfl, _, rfl, r, _, _, _, rfl, rfl, SqL.of hL.1, f1, _, rfl, p1, _, _, _, rfl, rfl, SqL.of f2, f3', _, rfl, r, as, rows, n, x, _, rfl, hL, sq, cx, .inr (com hl), ?_⟩
              refine ⟨_, rfl, _, rfl, _, rfl, _, rfl, r, _, _, _, rfl, rfl, SqL.of hL.1, g1, _, rfl, p2, _, _, _, rfl, rfl, SqL.of g2, g3', r, as, rows, n, _, y, rfl, hL, sq, .inr (com hi), cy, ?_⟩
              have sc : scal (eV (endOf rows x (0 + (l : Int)))) (eV (endOf rows (0 + (i : Int)) y)) = true := by
                cases endOf rows x (0 + (l : Int)) <;> cases endOf rows (0 + (i : Int)) y <;> rfl
              refine ⟨sc, _, rfl, ?_⟩
              by_cases hE : endOf rows x (0 + (l : Int)) = endOf rows (0 + (i : Int)) y
              · rw [hE, decide_eq_true rfl]
                have := sound_of (com hi) (com hl) e1 e2 hE
                rw [e0 i, e0 j, e0 l] at this
                exact iteF (next this)
              · have ne : decide (eV (endOf rows x (0 + (l : Int))) = eV (endOf rows (0 + (i : Int)) y)) = false := decide_eq_false fun z => hE (by
                  cases h1 : endOf rows x (0 + (l : Int)) <;> cases h2 : endOf rows (0 + (i : Int)) y <;> rw [h1, h2] at z <;> simp [eV] at z <;> first | rfl | (rw [z]))
                rw [ne]
                exact iteT (k false (fun z => by cases z))
        · subst e; subst eH
          rw [ln] at so3
          refine ⟨⟨_, _, rfl⟩, rfl, fun b c hb hc => ?_⟩
          by_cases z : b < j
          · exact so2 b c z hc
          · have : b = j := by omega
            subst this; exact so3 c hc
      · subst e; subst eH
        rw [ln] at so2
        refine ⟨⟨_, _, _, rfl⟩, rfl, fun a b c ha hb hc => ?_⟩
        by_cases z : a < i
        · exact so a b c z hb hc
        · have : a = i := by omega
          subst this; exact so2 b c hb hc
    · subst e; subst eH
      rw [ln] at so
      refine k true fun _ a b c ha hb hc => ?_
      obtain ⟨i, rfl, hi⟩ := cast a ha
      obtain ⟨j, rfl, hj⟩ := cast b hb
      obtain ⟨l, rfl, hl⟩ := cast c hc
      exact so i j l hi hj hl
theorem Bx.get {H : Hp} {b : Addr} (h : Bx H b) : ∃ g r : Int, H b = some (.lst [.int g, .int r]) := let ⟨g, r, h, _⟩ := h; ⟨g, r, h⟩
theorem Bx.ne {H : Hp} {b p : Addr} (h : Bx H b) (hp : H p = none) : p ≠ b := by
  obtain ⟨g, r, e⟩ := h.get
  exact (ne_of_none e hp).symm
theorem Bx.upd {H : Hp} {b p : Addr} {o : HO} (h : Bx H b) (hp : p ≠ b) : Bx (upd H p o) b := by
  obtain ⟨g, r, e, x⟩ := h
  exact ⟨g, r, by rw [upd_ne hp.symm]; exact e, x⟩
theorem Bx.same {H H' : Hp} {b : Addr} (h : Bx H b) (s : Same H H') : Bx H' b := by
  obtain ⟨g, r, e, x⟩ := h
  exact ⟨g, r, s _ _ e, x⟩
theorem Keep.free {b : Addr} {H H' : Hp} (s : Keep b H H') {p : Addr} (h : H' p = none) (hb : p ≠ b) : H p = none := by
  cases q : H p with
  | none => rfl
  | some o => rw [s p o hb q] at h; cases h
theorem Keep.updN {b p : Addr} {H H' : Hp} {o : HO} (s : Keep b H H') (h : H p = none) : Keep b H (upd H' p o) := fun a u ha e => by
  rw [upd_ne (ne_of_none e h)]
  exact s a u ha e
abbrev scLQN : List Str := ["_law_box_here", "_law_many", "_law_most", "_law_turn"]
theorem scLQ : FnScope scLQN ["_law_box_here", "_law_many", "_law_most"] (defScope sLQueue) := ⟨rfl, rfl, rfl, by decide +kernel, rfl, by decide +kernel, by decide +kernel⟩
theorem ok_lqueue (D : DefAt K mg "_law_queue" sLQueue) (T : Txt K mg C) (G__law_take : Keeps w K mg base CX0 "_law_take" 1 ["_law_box_here", "_law_many"] spLTake) : Keeps w K mg base CX0 "_law_queue" 2 ["_law_box_here", "_law_many", "_law_most"] spLQueue := by
  refine keeps0 D scLQ (fun vs H Q E h => ?_) (fun _ _ _ _ _ _ us hl => match us, hl with | [_, _, _], _ => rfl) fun f cdv A outer s H vs Q E hr h => ?_
  · obtain ⟨b, n, m, rfl, _⟩ := h
    rfl
  · obtain ⟨b, n, m, rfl, hb, n1, n12, m30, k⟩ := h
    refine ⟨_, (pss_one (ps_ret (pe_callTy (c_tuple K) (by rfl) T.tuple boot_tuple (pa_cons (pe_lc (own := [("_law_turn", 3)]) (g := gName 3) rfl scLQ.nd (pi_range1 (by rfl) T.range (pa_cons (pe_k G__law_take rfl (hr.mono (by decide)) (by rfl) pass0 (pa_cons (pv 0) (pa_cons (pe_op op_add (pv 2) pe_int) pa_nil))) pa_nil)) (blkOk_by (own := [("_law_turn", 3)]) (N := scLQN) (sc := defScope sLQueue) (by decide +kernel)) (fun _ _ _ _ _ => (pg_name (i := 3) scLQ.nd rfl (Or.inl rfl))) (fun _ _ _ _ _ => pts_nil) (fun _ _ _ _ _ => (pe_k G__law_take rfl (hr.mono (by decide)) (by rfl) pass0 (pa_cons (pv 0) (pa_cons (pv 1) pa_nil))))) pa_nil)))), ?_⟩
    refine ⟨_, rfl, _, rfl, _, _, rfl, rfl, b, m + 1, rfl, hb, by omega, by omega, fun d H1 hd K1 b1 => ?_⟩
    refine ⟨_, rfl, by omega, by omega, fun dd hdd => ?_⟩
    have nd := b1.ne hdd
    have hd0 := K1.free hdd nd
    refine lc_range (lo := 0) (n := ((d : Nat) : Int).toNat) (fun i H' => Keep b H H' ∧ Bx H' b ∧ ∃ q, H' dd = some (.lst (iV q)) ∧ q.length = i ∧ Que n q) ⟨K1.updN hd0, b1.upd nd, [], upd_same, rfl, fun _ z => by cases z⟩
      (fun i H2 hi ⟨K2, b2, q, e2, l2, q2⟩ => ?_) fun H2 ⟨K2, b2, q, e2, l2, q2⟩ => ?_
    · rw [Int.toNat_natCast] at hi
      refine ⟨rfl, _, rfl, _, rfl, b, n, rfl, b2, n1, by omega, fun c H3 hc K3 b3 => ?_⟩
      have e3 := K3 _ _ nd e2
      refine ⟨_, e3, by rw [iV_len]; exact small1000 (by omega), (K2.trans K3).updN hd0, b3.upd nd, q ++ [((c : Nat) : Int)], by rw [upd_same, iV_app]; rfl, by rw [List.length_append, l2]; rfl, fun x hx => ?_⟩
      rcases List.mem_append.mp hx with h | h
      · exact q2 x h
      · rw [List.mem_singleton.mp h]; exact ⟨by omega, by omega⟩
    · rw [Int.toNat_natCast] at l2
      refine ⟨dd, _, rfl, .inl ⟨SqL.of e2, fun p hp => ?_⟩⟩
      have np := b2.ne hp
      exact k _ p q (K2.updN (K2.free hp np)) (b2.upd np) upd_same q2 (by omega)
abbrev scLON : List Str := ["_law_rows_here", "_law_queue_here", "_law_place", "_law_end_here"]
theorem scLO : FnScope scLON ["_law_rows_here", "_law_queue_here", "_law_place"] (defScope sLOnce) := ⟨rfl, rfl, rfl, by decide +kernel, rfl, by decide +kernel, by decide +kernel⟩
theorem ok_lonce (D : DefAt K mg "_law_once" sLOnce) (T : Txt K mg C) : Keeps w K mg base CX0 "_law_once" 1 ["_law_rows_here", "_law_queue_here", "_law_place"] spLOnce := by
  refine keeps0 D scLO (fun vs H Q E h => ?_) (fun _ _ _ _ _ _ us hl => match us, hl with | [_, _, _], _ => rfl) fun f cdv A outer s H vs Q E hr h => ?_
  · obtain ⟨r, t, as, rows, n, q, v, rfl, _⟩ := h
    rfl
  · obtain ⟨r, t, as, rows, n, q, j, rfl, hL, sq, ht, hq, hlen, hc, k⟩ := h
    refine ⟨_, (pss_cons (ps_set (i := 3) scLO.nd rfl (Or.inl rfl) (pe_ifExp (pt_cmpR op_lt (pe_op op_add (pv 2) pe_int) (pe_callB (c_len K) (by rfl) T.len PySem.boot_len (pa_cons (pv 1) pa_nil)) (nomark _)) (pe_ix (x_list K) (pe_ix (x_list K) (pv 0) (pe_ix (x_tup K) (pv 1) (pv 2) (fun _ _ => rfl)) (fun _ _ => rfl)) (pe_ix (x_tup K) (pv 1) (pe_op op_add (pv 2) pe_int) (fun _ _ => rfl)) (fun _ _ => rfl)) pe_non))
      (pss_cons (ps_if (pt_cmpR op_isN (pv 3) pe_non (nomark _)) (pss_one (ps_ret pe_non)) pss_nil)
      (pss_one (ps_ret (pe_op op_catA (pe_op op_catA (pe_slice sl_tupA (pv 1) po_none (po_some (pv 2))) (pe_ifExp (pt_cmpR op_eq (pv 3) (pe_op op_sub pe_int pe_int) (nomark _)) (pe_tup pa_nil) (pe_tup (pa_cons (pv 3) pa_nil)))) (pe_slice sl_tupA (pv 1) (po_some (pe_op op_add (pv 2) pe_int)) po_none)))))), ?_⟩
    have hj1 : j < q.length := by have := hc.1; omega
    have hj2 := hc.1
    have c1 := hq.getD hj1
    have c2 := hq.getD hj2
    obtain ⟨p1, w1, f1, f2, f3, _⟩ := hL.get sq c1 c2
    obtain ⟨e, he⟩ : ∃ e, nb rows q j = some e := by
      cases z : nb rows q j with
      | none => exact absurd z hc.2
      | some e => exact ⟨e, rfl⟩
    have he' : rows.at (q.getD j 0) (q.getD (j + 1) 0) = some e := he
    rw [he'] at f3
    refine ⟨_, rfl, _, _, rfl, rfl, _, rfl, t, _, rfl, .inr (SqT.of ht), _, _, rfl, rfl, _, rfl, ?_⟩
    rw [decide_eq_true (show ((j : Nat) : Int) + 1 < ((iV q).length : Nat) by rw [iV_len]; omega)]
    refine iteT ⟨_, rfl, _, rfl, _, rfl, t, _, _, _, rfl, rfl, SqT.of ht, iV_at hj1, r, _, _, _, rfl, rfl, SqL.of hL.1, f1, _, rfl, _, rfl, _, _, rfl, rfl, t, _, _, _, rfl, rfl, SqT.of ht, iV_at hj2, p1, _, _, _, rfl, rfl, SqL.of f2, f3, ?_⟩
    refine ⟨_, rfl, rfl, _, rfl, iteF ?_⟩
    have zj : (0 : Int) ≤ (j : Nat) := by omega
    refine ⟨_, rfl, _, rfl, _, rfl, sl_any ht fun pa Ha Sa ea => ?_⟩
    rw [cut_take _ zj, Int.toNat_natCast, map_take_iV] at ea
    refine mid_any (e := e) rfl (fun R h => ⟨_, rfl, _, _, rfl, rfl, rfl, _, rfl, by rw [show decide (eV (some e) = V.int (0 - 1)) = decide (e = -1) by simp [eV]]; exact h⟩) fun pm Hm Sm em => ?_
    have lg : (iV (goL (some e))).length ≤ 1 := by
      rw [iV_len]
      by_cases z : e = -1
      · rw [show goL (some e) = [] from if_pos z]; exact Nat.zero_le _
      · rw [show goL (some e) = [e] from if_neg z]; exact Nat.le_refl _
    refine cat_any (Sm _ _ ea) em (by rw [iV_len, List.length_take]; show _ ≤ 16777216; omega) fun pb Hb Sb eb => ?_
    refine ⟨_, rfl, _, rfl, _, _, rfl, rfl, _, rfl, ?_⟩
    have S3 : Same H Hb := (Sa.trans Sm).trans Sb
    unfold tNoPart
    refine sl_any (S3 _ _ ht) fun pc Hc Sc ec => ?_
    rw [cut_drop _ (by omega : (0 : Int) ≤ ((j : Nat) : Int) + 2), show (((j : Nat) : Int) + 2).toNat = j + 2 by omega, map_drop_iV] at ec
    refine cat_any (Sc _ _ eb) ec ?_ fun pd Hd Sd ed => ?_
    · rw [iV_len] at lg
      rw [List.length_append, iV_len, iV_len, iV_len, List.length_take, List.length_drop]
      show _ ≤ 16777216; omega
    · refine k Hd pd ((S3.trans Sc).trans Sd) ?_
      rw [ed]
      unfold once
      rw [he, iV_app, iV_app, List.append_assoc]
end
end K7
end

section
-- K7Data
set_option Elab.async false
set_option linter.all false
set_option maxRecDepth 100000
set_option maxHeartbeats 4000000
/-! lists and tuples of ints as data: compared, shown. -/
namespace K7
open PySem PySem.Spec PyProof.Rows L2
def dI (q : List Int) : List PyData := q.map PyData.int
/-- an end as data -/
def dE : Option Int → PyData
  | none => .none
  | some i => .int i
theorem dpAll_iV {K : PySem.W.Frag} {H : Hp} : ∀ q : List Int, DpAll K H (iV q) (dI q)
  | [] => .nil
  | a :: q => .cons (.int a) (dpAll_iV q)
theorem dp_lst {K : PySem.W.Frag} {H : Hp} {a : Addr} {q : List Int} (h : H a = some (.lst (iV q))) : Dp K H (.ref a) (.list (dI q)) := .lst (SqL.of h) (dpAll_iV q)
theorem dp_tup {K : PySem.W.Frag} {H : Hp} {a : Addr} {q : List Int} (h : H a = some (.tup (iV q))) : Dp K H (.ref a) (.tuple (dI q)) := .tup (SqT.of h) (dpAll_iV q)
theorem lay_dI : ∀ q : List Int, PyData.canLayAll0 (dI q) = true
  | [] => rfl
  | a :: q => by
    show (PyData.canLay0 (.int a) && PyData.canLayAll0 (dI q)) = true
    rw [lay_dI q]; rfl
theorem dep_dI : ∀ q : List Int, PyData.depthAll (dI q) = 0
  | [] => rfl
  | a :: q => by
    show max (PyData.depth (.int a)) (PyData.depthAll (dI q)) = 0
    rw [dep_dI q]; rfl
theorem sh_list (q : List Int) : SeqAt.shaped (.list (dI q)) = true := by
  unfold SeqAt.shaped
  rw [show PyData.canLay0 (.list (dI q)) = true from lay_dI q, show PyData.depth (.list (dI q)) = 1 by show PyData.depthAll (dI q) + 1 = 1; rw [dep_dI]]
  rfl
theorem sh_tuple (q : List Int) : SeqAt.shaped (.tuple (dI q)) = true := by
  unfold SeqAt.shaped
  rw [show PyData.canLay0 (.tuple (dI q)) = true from lay_dI q, show PyData.depth (.tuple (dI q)) = 1 by show PyData.depthAll (dI q) + 1 = 1; rw [dep_dI]]
  rfl
theorem eq_list (q : List Int) : PyData.eqv (.list (dI q)) (.list (dI q)) = true := SeqAt.eqv_refl _ (lay_dI q)
theorem eq_tuple (q : List Int) : PyData.eqv (.tuple (dI q)) (.tuple (dI q)) = true := SeqAt.eqv_refl _ (lay_dI q)
theorem eq_nil (q : List Int) : PyData.eqv (.list (dI q)) (.list (dI [])) = q.isEmpty := by
  cases q <;> rfl
/-- l != [] : the list may be anything of ints -/
theorem ne_nil {K : PySem.W.Frag} {H : Hp} {a p : Addr} {q : List Int} {Q : VK} (h : H a = some (.lst (iV q))) (g : H p = some (.lst [])) (k : Q (.bl (!q.isEmpty)) H) : rNeD K (.ref a) (.ref p) H Q :=
  ⟨_, _, dp_lst h, dp_lst (q := []) g, sh_list q, sh_list [], by rw [eq_nil]; exact k⟩
theorem eq_nil_ {K : PySem.W.Frag} {H : Hp} {a p : Addr} {q : List Int} {Q : VK} (h : H a = some (.lst (iV q))) (g : H p = some (.lst [])) (k : Q (.bl q.isEmpty) H) : rEqD K (.ref a) (.ref p) H Q :=
  ⟨_, _, dp_lst h, dp_lst (q := []) g, sh_list q, sh_list [], by rw [eq_nil]; exact k⟩
theorem eq_tup {K : PySem.W.Frag} {H : Hp} {a p : Addr} {q : List Int} {Q : VK} (h : H a = some (.tup (iV q))) (g : H p = some (.tup (iV q))) (k : Q (.bl true) H) : rEqD K (.ref a) (.ref p) H Q :=
  ⟨_, _, dp_tup h, dp_tup g, sh_tuple q, sh_tuple q, by rw [eq_tuple]; exact k⟩
theorem ne_tup {K : PySem.W.Frag} {H : Hp} {a p : Addr} {q : List Int} {Q : VK} (h : H a = some (.tup (iV q))) (g : H p = some (.tup (iV q))) (k : Q (.bl false) H) : rNeD K (.ref a) (.ref p) H Q :=
  ⟨_, _, dp_tup h, dp_tup g, sh_tuple q, sh_tuple q, by rw [eq_tuple]; exact k⟩
theorem eq_lst {K : PySem.W.Frag} {H : Hp} {a p : Addr} {q : List Int} {Q : VK} (h : H a = some (.lst (iV q))) (g : H p = some (.lst (iV q))) (k : Q (.bl true) H) : rEqD K (.ref a) (.ref p) H Q :=
  ⟨_, _, dp_lst h, dp_lst g, sh_list q, sh_list q, by rw [eq_list]; exact k⟩
/-- places as ints -/
theorem nV_iV (l : List Nat) : nV l = iV (l.map fun i => ((i : Nat) : Int)) := by
  unfold nV iV
  rw [List.map_map]
  rfl
/-! ### shown -/
theorem log_small {i : Nat} (h : i < 1000) : i.log2 ≤ 10 := by
  by_cases z : i = 0
  · subst z; decide
  · have h1 : i.log2 < 10 := (Nat.log2_lt z).mpr (Nat.lt_trans h (by decide))
    omega
def Small (q : List Int) : Prop := q.length ≤ 1000 ∧ ∀ c ∈ q, c.natAbs < 1000
theorem Small.tail {a : Int} {q : List Int} (h : Small (a :: q)) : Small q := ⟨by have := h.1; rw [List.length_cons] at this; omega, fun c hc => h.2 c (List.mem_cons_of_mem _ hc)⟩
theorem show_dI : ∀ {q : List Int}, Small q → PyData.showableAll (dI q) = true
  | [], _ => rfl
  | a :: q, h => by
    show (PyData.showable (.int a) && PyData.showableAll (dI q)) = true
    rw [show_dI h.tail, Bool.and_true]
    exact decide_eq_true (Nat.lt_of_le_of_lt (log_small (h.2 a (List.mem_cons_self ..))) (by decide))
theorem dict_dI : ∀ q : List Int, PyData.hasDictAll (dI q) = false
  | [] => rfl
  | a :: q => by
    show (PyData.hasDict (.int a) || PyData.hasDictAll (dI q)) = false
    rw [dict_dI q]; rfl
theorem weight_dI : ∀ {q : List Int}, Small q → PyData.weightAll (dI q) ≤ 12 * q.length
  | [], _ => Nat.le_refl _
  | a :: q, h => by
    show PyData.weight (.int a) + 1 + PyData.weightAll (dI q) ≤ 12 * (q.length + 1)
    have h1 := weight_dI h.tail
    have h2 : PyData.weight (.int a) ≤ 11 := by
      show (if a == 0 then 0 else a.natAbs.log2 + 1) ≤ 11
      split
      · exact Nat.zero_le _
      · have := log_small (h.2 a (List.mem_cons_self ..)); omega
    omega
theorem leaves_dI : ∀ {q : List Int}, Small q → PyData.leavesShortAll 13 (dI q) = true
  | [], _ => rfl
  | a :: q, h => by
    show (PyData.leavesShort 13 (.int a) && PyData.leavesShortAll 13 (dI q)) = true
    rw [leaves_dI h.tail, Bool.and_true]
    exact decide_eq_true (PyData.shown_int_le (Nat.lt_trans (h.2 a (List.mem_cons_self ..)) (by decide)))
/-- a tuple of a few small ints can be shown -/
structure CanShow (d : PyData) : Prop where
  sh : d.showable = true
  nd : d.hasDict = false
  dp : d.depth ≤ 8
  sz : d.shown.length ≤ sizeLine
theorem show_tuple {q : List Int} (h : Small q) : CanShow (.tuple (dI q)) := by
  refine ⟨show_dI h, dict_dI q, ?_, PyData.shown_fits (B := 13) (by decide) (by decide) (leaves_dI h) ?_⟩
  · show PyData.depthAll (dI q) + 1 ≤ 8
    rw [dep_dI]; decide
  · show PyData.weightAll (dI q) ≤ 2 ^ 20
    have := weight_dI h
    have := h.1
    omega
theorem show_pair {p q : List Int} (h : Small p) (g : Small q) : CanShow (.tuple [.tuple (dI p), .tuple (dI q)]) := by
  refine ⟨?_, ?_, ?_, PyData.shown_fits (B := 13) (by decide) (by decide) ?_ ?_⟩
  · show (PyData.showableAll (dI p) && (PyData.showableAll (dI q) && true)) = true
    rw [show_dI h, show_dI g]; rfl
  · show (PyData.hasDictAll (dI p) || (PyData.hasDictAll (dI q) || false)) = false
    rw [dict_dI, dict_dI]; rfl
  · show max (PyData.depthAll (dI p) + 1) (max (PyData.depthAll (dI q) + 1) 0) + 1 ≤ 8
    rw [dep_dI, dep_dI]; decide
  · show (PyData.leavesShortAll 13 (dI p) && (PyData.leavesShortAll 13 (dI q) && true)) = true
    rw [leaves_dI h, leaves_dI g]; rfl
  · show PyData.weightAll (dI p) + 1 + (PyData.weightAll (dI q) + 1 + 0) ≤ 2 ^ 20
    have := weight_dI h
    have := weight_dI g
    have := h.1
    have := g.1
    omega
end K7
end

section
-- K7Pile
set_option Elab.async false
set_option linter.all false
set_option maxRecDepth 100000
set_option maxHeartbeats 4000000
/-! the law's own pile. -/
namespace K7
open PySem PySem.Spec PyProof.Rows L2
def spLPile : Sp := fun vs H Q _ => ∃ (r t : Addr) (as : List Addr) (rows : Rw) (n : Nat) (q : List Int), vs = [.ref r, .ref t] ∧ RL H r as rows ∧ Sq rows n ∧ H t = some (.tup (iV q)) ∧ Que n q ∧ q.length ≤ 10000 ∧
  ∀ H' p a b, Same H H' → H' p = some (.tup [.ref a, .ref b]) → H' a = some (.tup (iV (plain rows q))) → H' b = some (.tup (nV (places rows q))) → Q (.ref p) H'
theorem lay_if {x : List Int × Int × Nat} : lay x = (if x.2.1 = -1 then [] else [x.2.1]) ++ x.1 := by
  unfold lay
  split
  · rfl
  · rfl
section
variable {w : World} {K : PySem.W.Frag} {mg : Str → Option Value} {base : Heap} {C CQ CW CR : Addr}
abbrev scLPiN : List Str := ["_law_rows_here", "_law_queue_here", "_law_pile_here", "_law_places", "_law_command", "_law_here"]
theorem scLPi : FnScope scLPiN ["_law_rows_here", "_law_queue_here"] (defScope sLPile) := ⟨rfl, rfl, rfl, by decide +kernel, rfl, by decide +kernel, by decide +kernel⟩
theorem ok_lpile (D : DefAt K mg "_law_pile" sLPile) (T : Txt K mg C) : Keeps w K mg base CX0 "_law_pile" 1 ["_law_rows_here", "_law_queue_here"] spLPile := by
  refine keeps0 D scLPi (fun vs H Q E h => ?_) (fun _ _ _ _ _ _ us hl => match us, hl with | [_, _], _ => rfl) fun f cdv A outer s H vs Q E hr h => ?_
  · obtain ⟨r, t, as, rows, n, q, rfl, _⟩ := h
    rfl
  · obtain ⟨r, t, as, rows, n, q, rfl, hL, sq, ht, hq, hlen, k⟩ := h
    refine ⟨_, (pss_cons (ps_par (i := 2) (j := 3) rfl scLPi.nd rfl rfl (by decide) rfl rfl (pa_cons (pe_lst pa_nil) (pa_cons (pe_lst pa_nil) pa_nil)) (by rfl))
      (pss_cons (ps_for PassesOwn.never rfl (pi_tup (pv 1)) (pg_name (i := 4) scLPi.nd rfl (Or.inl rfl)) (pss_cons (ps_set (i := 5) scLPi.nd rfl (Or.inl rfl) (pv 4))
      (pss_cons (ps_while PassesOwn.never (PW.pt (pw_and (pt_cmpR (op_neD hr.units) (pv 2) (pe_lst pa_nil) (nomark _)) (pw_and (pt_cmpR op_ne (pv 5) (pe_op op_sub pe_int pe_int) (nomark _)) (pw_and1 (pt_cmpR op_notN (pe_ix (x_list K) (pe_ix (x_list K) (pv 0) (pe_ix (x_list K) (pv 2) (pe_un un_neg pe_int) (fun _ _ => rfl)) (fun _ _ => rfl)) (pv 5) (fun _ _ => rfl)) pe_non (nomark _)))))) (pss_cons (ps_expr (pe_bm PySem.F.plainAttrs_list PySem.F.slot_list_append PySem.F.type_list_append mt_append (pv 3) (pa_cons (pe_op op_sub (pe_callB (c_len K) (by rfl) T.len PySem.boot_len (pa_cons (pv 2) pa_nil)) pe_int) pa_nil)))
      (pss_one (ps_set (i := 5) scLPi.nd rfl (Or.inl rfl) (pe_ix (x_list K) (pe_ix (x_list K) (pv 0) (pe_bm0 PySem.F.plainAttrs_list PySem.F.slot_list_pop PySem.F.type_list_pop mt_pop (pv 2)) (fun _ _ => rfl)) (pv 5) (fun _ _ => rfl))))))
      (pss_one (ps_set (i := 2) scLPi.nd rfl (Or.inl rfl) (pe_op op_cat (pv 2) (pe_ifExp (pt_cmpR op_ne (pv 5) (pe_op op_sub pe_int pe_int) (nomark _)) (pe_lst (pa_cons (pv 5) pa_nil)) (pe_lst pa_nil))))))))
      (pss_one (ps_ret (pe_tup (pa_cons (pe_callTy (c_tuple K) (by rfl) T.tuple boot_tuple (pa_cons (pv 2) pa_nil)) (pa_cons (pe_callTy (c_tuple K) (by rfl) T.tuple boot_tuple (pa_cons (pv 3) pa_nil)) pa_nil))))))), ?_⟩
    refine ⟨Nat.zero_le _, fun l hl => ⟨Nat.zero_le _, fun b hb => ⟨_, _, rfl, ?_⟩⟩⟩
    have S1 : Same H (upd H l (.lst [])) := same_new hl
    have nlb : l ≠ b := fun z => by rw [← z, upd_same] at hb; cases hb
    have S2 : Same H (upd (upd H l (.lst [])) b (.lst [])) := S1.new hb
    have Ll : (upd (upd H l (.lst [])) b (.lst [])) l = some (.lst (iV ([] : List Int).reverse)) := by rw [upd_ne nlb, upd_same]; rfl
    have Lb : (upd (upd H l (.lst [])) b (.lst [])) b = some (.lst (nV [])) := upd_same
    have hbH : H b = none := by rw [upd_ne nlb.symm] at hb; exact hb
    generalize upd (upd H l (.lst [])) b (.lst []) = H2 at S2 Ll Lb
    have lens : ∀ i, (steps rows (q.take i) ([], [])).1.length + (steps rows (q.take i) ([], [])).2.length ≤ q.length := fun i => by
      have h1 := steps_many (rows := rows) (q := q.take i) (s := ([], []))
      have h2 : (q.take i).length ≤ q.length := by rw [List.length_take]; omega
      have h3 : (([], []) : List Int × List Nat).1.length = 0 := rfl
      have h4 : (([], []) : List Int × List Nat).2.length = 0 := rfl
      omega
    refine ⟨_, rfl, t, rfl, ⟨_, SqT.of (S2 _ _ ht)⟩, for_tup (K := K) (a := t) (xs := iV q) (fun i σ H' => ∃ (l' : Addr) (c4 c5 : Option V), σ = [some (.ref r), some (.ref t), some (.ref l'), some (.ref b), c4, c5] ∧ H l' = none ∧ l' ≠ b ∧ Same H H' ∧
        H' l' = some (.lst (iV (steps rows (q.take i) ([], [])).1.reverse)) ∧ H' b = some (.lst (nV (steps rows (q.take i) ([], [])).2)))
      ⟨l, _, _, rfl, hl, nlb, S2, by rw [List.take_zero]; exact Ll, by rw [List.take_zero]; exact Lb⟩ (fun i σ H' _ z => ?_) (fun i x σ H3 hx ⟨l', c4, c5, eσ, hl', nl', z1, z2, z3⟩ => ?_) fun σ H3 ⟨l', c4, c5, eσ, hl', nl', z1, z2, z3⟩ => ?_⟩
    · obtain ⟨_, _, _, _, _, _, z, _⟩ := z
      exact SqT.of (z _ _ ht)
    · subst eσ
      clear Ll hl nlb
      obtain ⟨c, hc, rfl⟩ := map_item hx
      have hl1 := lens i
      have cc := hq.get hc
      have qs : Que n (steps rows (q.take i) ([], [])).1 := steps_que sq (fun d hd => hq d (List.mem_of_mem_take hd)) (fun d hd => by cases hd)
      have st := steps_take (rows := rows) hc
      generalize steps rows (q.take i) ([], []) = s0 at *
      refine ⟨_, rfl, ?_⟩
      have hm := many_le (rows := rows) (p := s0.1) (c := c)
      refine ⟨fun μ σ H' => ∃ (p1 : List Int) (k1 : Nat) (h1 : Int), σ = [some (.ref r), some (.ref t), some (.ref l'), some (.ref b), some (.int c), some (.int h1)] ∧ μ = p1.length ∧ Same H H' ∧ H' l' = some (.lst (iV p1.reverse)) ∧
        H' b = some (.lst (nV (s0.2 ++ (downs s0.1.length (many rows s0.1 c)).take k1))) ∧ p1.length + k1 = s0.1.length ∧ Que n p1 ∧ (h1 = -1 ∨ Com n h1) ∧ press rows s0.1 c = ((press rows p1 h1).1, (press rows p1 h1).2.1, (press rows p1 h1).2.2 + k1),
        ⟨s0.1.length, s0.1, 0, c, rfl, rfl, z1, z2, by rw [List.take_zero, List.append_nil]; exact z3, rfl, qs, .inr cc, rfl⟩, ?_⟩
      rintro μ σ H4 ⟨p1, k1, h1, rfl, rfl, y1, y2, y3, yl, yq, yh, yp⟩
      -- leaving the loop
      have out : ∀ H5, Same H H5 → H5 l' = some (.lst (iV p1.reverse)) → H5 b = some (.lst (nV (s0.2 ++ (downs s0.1.length (many rows s0.1 c)).take k1))) → press rows p1 h1 = (p1, h1, 0) →
          ∀ (ys : List V), ys = iV (if h1 = -1 then [] else [h1]) → ∀ p, H5 p = none →
            ∃ (l' : Addr) (c4 c5 : Option V), [some (V.ref r), some (.ref t), some (.ref p), some (.ref b), some (.int c), some (.int h1)] = [some (.ref r), some (.ref t), some (.ref l'), some (.ref b), c4, c5] ∧ H l' = none ∧ l' ≠ b ∧
              Same H (upd H5 p (.lst (iV p1.reverse ++ ys))) ∧ (upd H5 p (.lst (iV p1.reverse ++ ys))) l' = some (.lst (iV (steps rows (q.take (i + 1)) ([], [])).1.reverse)) ∧
              (upd H5 p (.lst (iV p1.reverse ++ ys))) b = some (.lst (nV (steps rows (q.take (i + 1)) ([], [])).2)) := by
        intro H5 s5 e5 b5 ep ys eys p hp
        rw [ep] at yp
        have em : many rows s0.1 c = k1 := by unfold many; rw [yp]; exact Nat.zero_add _
        have eput : put rows s0.1 c = (if h1 = -1 then [] else [h1]) ++ p1 := by
          unfold put
          rw [yp]
          exact lay_if
        have npb : p ≠ b := (ne_of_none b5 hp).symm
        refine ⟨p, _, _, rfl, s5.free hp, npb, s5.new hp, ?_, ?_⟩
        · rw [upd_same, st, eput, eys, ← iV_app, List.reverse_append]
          congr 4
          split <;> rfl
        · rw [upd_ne npb.symm, b5, st, em, List.take_of_length_le (by rw [downs_len]; omega)]
      have len0 : ∀ ys : List V, ys.length ≤ 1 → (iV p1.reverse).length + ys.length ≤ sizeLine := fun ys h => by rw [iV_len, List.length_reverse]; show _ ≤ 16777216; omega
      refine ⟨_, rfl, Nat.zero_le _, fun p0 hp0 => ne_nil (same_new hp0 _ _ y2) upd_same ⟨_, rfl, ?_⟩⟩
      have s5 : Same H (upd H4 p0 (.lst [])) := y1.new hp0
      have e5 := same_new (o := .lst []) hp0 _ _ y2
      have b5 := same_new (o := .lst []) hp0 _ _ y3
      generalize upd H4 p0 (.lst []) = H5 at s5 e5 b5
      cases p1 with
      | nil =>
        refine iteF (iteF ?_)
        refine ⟨_, rfl, _, rfl, _, _, rfl, rfl, rfl, _, rfl, ?_⟩
        show if (!decide (V.int h1 = V.int (0 - 1))) = true then _ else _
        rw [show (!decide (V.int h1 = V.int (0 - 1))) = !decide (h1 = -1) by simp]
        by_cases hg : h1 = -1
        · rw [decide_eq_true hg]
          refine iteF ⟨Nat.zero_le _, fun lx hlx => ?_⟩
          have o := out _ ((s5).new (o := .lst []) hlx) (same_new hlx _ _ e5) (same_new hlx _ _ b5) rfl [] (by rw [if_pos hg]; rfl)
          exact ⟨l', lx, _, _, rfl, rfl, same_new hlx _ _ e5, upd_same, len0 [] (Nat.zero_le _), fun p hp => o p hp⟩
        · rw [decide_eq_false hg]
          refine iteT ⟨_, rfl, by show 1 ≤ sizeLine; decide, fun lx hlx => ?_⟩
          have o := out _ ((s5).new (o := .lst [V.int h1]) hlx) (same_new hlx _ _ e5) (same_new hlx _ _ b5) rfl [V.int h1] (by rw [if_neg hg]; rfl)
          exact ⟨l', lx, _, _, rfl, rfl, same_new hlx _ _ e5, upd_same, len0 [V.int h1] (Nat.le_refl _), fun p hp => o p hp⟩
      | cons t' p2 =>
        rw [show (!((t' :: p2).reverse).isEmpty) = true by simp]
        refine iteT ⟨_, rfl, _, _, rfl, rfl, rfl, _, rfl, ?_⟩
        show if (!decide (V.int h1 = V.int (0 - 1))) = true then _ else _
        rw [show (!decide (V.int h1 = V.int (0 - 1))) = !decide (h1 = -1) by simp]
        by_cases hg1 : h1 = -1
        · rw [decide_eq_true hg1]
          refine iteF (iteF ?_)
          have ep : press rows (t' :: p2) h1 = (t' :: p2, h1, 0) := by rw [hg1]; exact press_gone ..
          refine ⟨_, rfl, _, rfl, _, _, rfl, rfl, rfl, _, rfl, ?_⟩
          show if (!decide (V.int h1 = V.int (0 - 1))) = true then _ else _
          rw [show (!decide (V.int h1 = V.int (0 - 1))) = !decide (h1 = -1) by simp]
          by_cases hg : h1 = -1
          · rw [decide_eq_true hg]
            refine iteF ⟨Nat.zero_le _, fun lx hlx => ?_⟩
            have o := out _ ((s5).new (o := .lst []) hlx) (same_new hlx _ _ e5) (same_new hlx _ _ b5) ep [] (by rw [if_pos hg]; rfl)
            exact ⟨l', lx, _, _, rfl, rfl, same_new hlx _ _ e5, upd_same, len0 [] (Nat.zero_le _), fun p hp => o p hp⟩
          · rw [decide_eq_false hg]
            refine iteT ⟨_, rfl, by show 1 ≤ sizeLine; decide, fun lx hlx => ?_⟩
            have o := out _ ((s5).new (o := .lst [V.int h1]) hlx) (same_new hlx _ _ e5) (same_new hlx _ _ b5) ep [V.int h1] (by rw [if_neg hg]; rfl)
            exact ⟨l', lx, _, _, rfl, rfl, same_new hlx _ _ e5, upd_same, len0 [V.int h1] (Nat.le_refl _), fun p hp => o p hp⟩
        · rw [decide_eq_false hg1]
          have hc1 := yh.resolve_left hg1
          have htc : Com n t' := yq t' (List.mem_cons_self ..)
          have hL5 := hL.same s5
          obtain ⟨pa, wa, f1, f2, f3, _⟩ := hL5.get sq htc hc1
          have e5' : H5 l' = some (.lst (iV p2.reverse ++ [V.int t'])) := by rw [e5, rev_cons]
          refine iteT ⟨_, rfl, _, rfl, _, rfl, l', _, _, _, rfl, rfl, SqL.of e5', atI_last _ _, r, _, _, _, rfl, rfl, SqL.of hL5.1, f1, _, rfl, pa, _, _, _, rfl, rfl, SqL.of f2, f3, rfl, _, rfl, ?_⟩
          rw [eV_non]
          cases ee : rows.at t' h1 with
          | none =>
            refine iteF ?_
            have ep : press rows (t' :: p2) h1 = (t' :: p2, h1, 0) := press_none ee
            refine ⟨_, rfl, _, rfl, _, _, rfl, rfl, rfl, _, rfl, ?_⟩
            show if (!decide (V.int h1 = V.int (0 - 1))) = true then _ else _
            rw [show (!decide (V.int h1 = V.int (0 - 1))) = !decide (h1 = -1) by simp]
            by_cases hg : h1 = -1
            · rw [decide_eq_true hg]
              refine iteF ⟨Nat.zero_le _, fun lx hlx => ?_⟩
              have o := out _ ((s5).new (o := .lst []) hlx) (same_new hlx _ _ e5) (same_new hlx _ _ b5) ep [] (by rw [if_pos hg]; rfl)
              exact ⟨l', lx, _, _, rfl, rfl, same_new hlx _ _ e5, upd_same, len0 [] (Nat.zero_le _), fun p hp => o p hp⟩
            · rw [decide_eq_false hg]
              refine iteT ⟨_, rfl, by show 1 ≤ sizeLine; decide, fun lx hlx => ?_⟩
              have o := out _ ((s5).new (o := .lst [V.int h1]) hlx) (same_new hlx _ _ e5) (same_new hlx _ _ b5) ep [V.int h1] (by rw [if_neg hg]; rfl)
              exact ⟨l', lx, _, _, rfl, rfl, same_new hlx _ _ e5, upd_same, len0 [V.int h1] (Nat.le_refl _), fun p hp => o p hp⟩
          | some e =>
            have f3' := f3
            rw [ee] at f3'
            have yp' := yp
            rw [press_some hg1 ee] at yp'
            have km : k1 < many rows s0.1 c := by unfold many; rw [yp']; show k1 < _ + 1 + k1; omega
            have yl' : p2.length + 1 + k1 = s0.1.length := yl
            refine iteT ⟨fun σ' H' => ∃ m', m' < (t' :: p2).length ∧ ∃ (p1 : List Int) (k1 : Nat) (h1 : Int), σ' = [some (.ref r), some (.ref t), some (.ref l'), some (.ref b), some (.int c), some (.int h1)] ∧ m' = p1.length ∧ Same H H' ∧ H' l' = some (.lst (iV p1.reverse)) ∧
              H' b = some (.lst (nV (s0.2 ++ (downs s0.1.length (many rows s0.1 c)).take k1))) ∧ p1.length + k1 = s0.1.length ∧ Que n p1 ∧ (h1 = -1 ∨ Com n h1) ∧ press rows s0.1 c = ((press rows p1 h1).1, (press rows p1 h1).2.1, (press rows p1 h1).2.2 + k1), fun σ' H' z => z, ?_⟩
            have lb : (nV (s0.2 ++ (downs s0.1.length (many rows s0.1 c)).take k1)).length < 16777216 := by rw [nV_len, List.length_append, List.length_take, downs_len]; omega
            refine ⟨_, rfl, .inl ⟨rfl, _, SqL.of b5⟩, _, rfl, l', _, rfl, .inl (SqL.of e5'), _, _, rfl, rfl, b, _, _, rfl, rfl, b5, lb, ?_⟩
            have nbl : b ≠ l' := nl'.symm
            have ei : (((iV p2.reverse ++ [V.int t']).length : Nat) : Int) - 1 = ((s0.1.length - 1 - k1 : Nat) : Int) := by
              rw [List.length_append, iV_len, List.length_reverse]
              show ((p2.length + 1 : Nat) : Int) - 1 = _
              omega
            have S6 : Same H (upd H5 b (.lst (nV (s0.2 ++ (downs s0.1.length (many rows s0.1 c)).take k1) ++ [V.int ((((iV p2.reverse ++ [V.int t']).length : Nat) : Int) - 1)]))) := same_upd s5 hbH
            have B6 : (upd H5 b (.lst (nV (s0.2 ++ (downs s0.1.length (many rows s0.1 c)).take k1) ++ [V.int ((((iV p2.reverse ++ [V.int t']).length : Nat) : Int) - 1)]))) b = some (.lst (nV (s0.2 ++ (downs s0.1.length (many rows s0.1 c)).take (k1 + 1)))) := by
              rw [upd_same, downs_take km, ← List.append_assoc, nV_app (s0.2 ++ (downs s0.1.length (many rows s0.1 c)).take k1) [s0.1.length - 1 - k1], ei]
              rfl
            have L6 : (upd H5 b (.lst (nV (s0.2 ++ (downs s0.1.length (many rows s0.1 c)).take k1) ++ [V.int ((((iV p2.reverse ++ [V.int t']).length : Nat) : Int) - 1)]))) l' = some (.lst (iV p2.reverse ++ [V.int t'])) := by rw [upd_ne nl']; exact e5'
            show tSeq _ _ _ _ (upd H5 b (.lst (nV (s0.2 ++ (downs s0.1.length (many rows s0.1 c)).take k1) ++ [V.int ((((iV p2.reverse ++ [V.int t']).length : Nat) : Int) - 1)])))
            generalize upd H5 b (.lst (nV (s0.2 ++ (downs s0.1.length (many rows s0.1 c)).take k1) ++ [V.int ((((iV p2.reverse ++ [V.int t']).length : Nat) : Int) - 1)])) = H6 at S6 B6 L6
            have len1 : (iV p2.reverse ++ [V.int t']).length = p2.length + 1 := by rw [List.length_append, iV_len, List.length_reverse]; rfl
            have last1 : (iV p2.reverse ++ [V.int t'])[(iV p2.reverse ++ [V.int t']).length - 1]? = some (V.int t') := by
              rw [len1, List.getElem?_append_right (by rw [iV_len, List.length_reverse]; omega), iV_len, List.length_reverse, show p2.length + 1 - 1 - p2.length = 0 by omega]
              rfl
            have dl1 : (iV p2.reverse ++ [V.int t']).dropLast = iV p2.reverse := by
              rw [List.dropLast_append_of_ne_nil (by simp)]; exact List.append_nil _
            refine ⟨_, rfl, _, rfl, .inl ⟨rfl, _, SqL.of L6⟩, l', _, _, rfl, rfl, L6, last1, ?_⟩
            rw [dl1]
            have S7 : Same H (upd H6 l' (.lst (iV p2.reverse))) := same_upd S6 hl'
            have L7 : (upd H6 l' (.lst (iV p2.reverse))) l' = some (.lst (iV p2.reverse)) := upd_same
            have B7 : (upd H6 l' (.lst (iV p2.reverse))) b = some (.lst (nV (s0.2 ++ (downs s0.1.length (many rows s0.1 c)).take (k1 + 1)))) := by rw [upd_ne nbl]; exact B6
            generalize upd H6 l' (.lst (iV p2.reverse)) = H7 at S7 L7 B7
            have hL7 := hL.same S7
            obtain ⟨pb, wb, g1, g2, g3, _⟩ := hL7.get sq htc hc1
            rw [ee] at g3
            refine ⟨r, _, _, _, rfl, rfl, SqL.of hL7.1, g1, _, rfl, pb, _, _, _, rfl, rfl, SqL.of g2, g3, ?_⟩
            refine ⟨p2.length, by show _ < p2.length + 1; omega, p2, k1 + 1, e, rfl, rfl, S7, L7, B7, by omega, fun x hx => yq x (List.mem_cons_of_mem _ hx), ?_, ?_⟩
            · by_cases z : e = -1
              · exact .inl z
              · exact .inr (sq.com htc hc1 ee z)
            · rw [yp', show (press rows p2 e).2.2 + 1 + k1 = (press rows p2 e).2.2 + (k1 + 1) by omega]
    · subst eσ
      have et : q.take (iV q).length = q := by rw [iV_len, List.take_length]
      rw [et] at z2 z3
      refine ⟨_, rfl, l', _, rfl, .inl ⟨SqL.of z2, fun a ha => ?_⟩⟩
      have S5 : Same H (upd H3 a (.tup (iV (steps rows q ([], [])).1.reverse))) := z1.new ha
      have La : (upd H3 a (.tup (iV (steps rows q ([], [])).1.reverse))) a = some (.tup (iV (plain rows q))) := upd_same
      have Lb5 := same_new (o := .tup (iV (steps rows q ([], [])).1.reverse)) ha _ _ z3
      generalize upd H3 a (.tup (iV (steps rows q ([], [])).1.reverse)) = H5 at S5 La Lb5
      refine ⟨_, rfl, b, _, rfl, .inl ⟨SqL.of Lb5, fun d hd => ?_⟩⟩
      have S6 := S5.new (o := .tup (nV (steps rows q ([], [])).2)) hd
      have La6 := same_new (o := .tup (nV (steps rows q ([], [])).2)) hd _ _ La
      have Ld : (upd H5 d (.tup (nV (steps rows q ([], [])).2))) d = some (.tup (nV (places rows q))) := upd_same
      generalize upd H5 d (.tup (nV (steps rows q ([], [])).2)) = H6 at S6 La6 Ld
      refine ⟨by show 2 ≤ sizeLine; decide, fun p hp => ?_⟩
      exact k _ p a d (S6.new hp) upd_same (same_new hp _ _ La6) (same_new hp _ _ Ld)
end
end K7
end

section
-- K7Rws
set_option Elab.async false
set_option linter.all false
set_option maxRecDepth 100000
set_option maxHeartbeats 4000000
/-! rows being drawn: lists of ends in a list, all of them new. -/
namespace K7
open PySem PySem.Spec PyProof.Rows L2
/-- n lists of n ends up to B, in a list at r; new since H0 -/
structure Rws (H0 H : Hp) (r : Addr) (as : List Addr) (n : Nat) (B : Int) : Prop where
  top : H r = some (.lst (as.map V.ref))
  len : as.length = n
  row : ∀ a ∈ as, ∃ row : List (Option Int), H a = some (.lst (row.map eV)) ∧ row.length = n ∧ ∀ c, some c ∈ row → -1 ≤ c ∧ c ≤ B
  newR : H0 r = none
  newA : ∀ a ∈ as, H0 a = none
theorem rl_of {H : Hp} {n : Nat} {B : Int} : ∀ {as : List Addr}, (∀ a ∈ as, ∃ row : List (Option Int), H a = some (.lst (row.map eV)) ∧ row.length = n ∧ ∀ c, some c ∈ row → -1 ≤ c ∧ c ≤ B) →
    ∃ rows : Rw, as.length = rows.length ∧ (∀ (i : Nat) (a : Addr) (row : List (Option Int)), as[i]? = some a → rows[i]? = some row → H a = some (.lst (row.map eV))) ∧ ∀ row ∈ rows, row.length = n ∧ ∀ c, some c ∈ row → -1 ≤ c ∧ c ≤ B
  | [], _ => ⟨[], rfl, fun i a row h => (by cases h), fun r h => (by cases h)⟩
  | a :: as, h => by
    obtain ⟨rows, h1, h2, h3⟩ := rl_of (as := as) fun b hb => h b (List.mem_cons_of_mem _ hb)
    obtain ⟨row, g1, g2, g3⟩ := h a (List.mem_cons_self ..)
    refine ⟨row :: rows, congrArg Nat.succ h1, fun i b row' e1 e2 => ?_, fun r hr => ?_⟩
    · cases i with
      | zero => cases e1; cases e2; exact g1
      | succ i => exact h2 i b row' e1 e2
    · rcases List.mem_cons.mp hr with z | z
      · rw [z]; exact ⟨g2, g3⟩
      · exact h3 r z
theorem Rws.rl {H0 H : Hp} {r : Addr} {as : List Addr} {n : Nat} (h : Rws H0 H r as n ((n : Int) - 1)) (h1 : 1 ≤ n) (h2 : n ≤ 12) : ∃ rows : Rw, RL H r as rows ∧ Sq rows n := by
  obtain ⟨rows, e1, e2, e3⟩ := rl_of h.row
  refine ⟨rows, ⟨h.top, e1, e2⟩, h1, h2, by rw [← e1]; exact h.len, fun r hr => (e3 r hr).1, fun r hr c hc => ?_⟩
  have := (e3 r hr).2 c hc
  omega
theorem Rws.same {H0 H H' : Hp} {r : Addr} {as : List Addr} {n : Nat} {B : Int} (h : Rws H0 H r as n B) (s : Same H H') : Rws H0 H' r as n B :=
  ⟨s _ _ h.top, h.len, fun a ha => let ⟨row, h1, h2⟩ := h.row a ha; ⟨row, s _ _ h1, h2⟩, h.newR, h.newA⟩
theorem Rws.keep {H0 H H' : Hp} {r b : Addr} {as : List Addr} {n : Nat} {B : Int} (h : Rws H0 H r as n B) (hb : Bx H0 b) (s : Keep b H H') : Rws H0 H' r as n B :=
  ⟨s _ _ (hb.ne h.newR) h.top, h.len, fun a ha => let ⟨row, h1, h2⟩ := h.row a ha; ⟨row, s _ _ (hb.ne (h.newA a ha)) h1, h2⟩, h.newR, h.newA⟩
theorem Rws.ne {H0 H : Hp} {r a : Addr} {as : List Addr} {n : Nat} {B : Int} (h : Rws H0 H r as n B) (h1 : 1 ≤ n) (ha : a ∈ as) : r ≠ a := fun z => by
  obtain ⟨row, e, hl, _⟩ := h.row a ha
  have t := h.top
  rw [z, e] at t
  have t' : row.map eV = as.map V.ref := by injection t with t; injection t
  cases as with
  | nil => cases ha
  | cons b bs =>
    cases row with
    | nil => cases t'
    | cons x xs =>
      have : eV x = V.ref b := by injection t'
      cases x <;> cases this
theorem Rws.set {H0 H : Hp} {r a : Addr} {as : List Addr} {n j : Nat} {B e : Int} {xs : List V} (h : Rws H0 H r as n B) (h1 : 1 ≤ n) (ha : a ∈ as) (hx : H a = some (.lst xs)) (he : -1 ≤ e ∧ e ≤ B) : Rws H0 (upd H a (.lst (xs.set j (.int e)))) r as n B := by
  refine ⟨by rw [upd_ne (h.ne h1 ha)]; exact h.top, h.len, fun c hc => ?_, h.newR, h.newA⟩
  by_cases z : c = a
  · obtain ⟨row, e1, e2, e3⟩ := h.row a ha
    rw [hx] at e1
    cases e1
    refine ⟨row.set j (some e), ?_, by rw [List.length_set]; exact e2, fun d hd => ?_⟩
    · rw [z, upd_same, List.map_set]
      rfl
    · rcases List.mem_or_eq_of_mem_set hd with q | q
      · exact e3 d q
      · cases q; exact he
  · obtain ⟨row, e1, e2⟩ := h.row c hc
    exact ⟨row, by rw [upd_ne z]; exact e1, e2⟩
theorem Rws.at_ {H0 H : Hp} {r : Addr} {as : List Addr} {n : Nat} {B : Int} (h : Rws H0 H r as n B) {i : Nat} (hi : i < n) : ∃ (a : Addr) (row : List (Option Int)), atI (as.map V.ref) ((i : Nat) : Int) = some (.ref a) ∧ a ∈ as ∧ H a = some (.lst (row.map eV)) ∧ (row.map eV).length = n := by
  obtain ⟨a, ea⟩ := get_of hi h.len
  have ha := List.mem_of_getElem? ea
  obtain ⟨row, e1, e2, _⟩ := h.row a ha
  exact ⟨a, row, atI_nat (at_at ea), ha, e1, by rw [List.length_map]; exact e2⟩
theorem ixN_nat {n i : Nat} (h : i < n) : ixN n ((i : Nat) : Int) = some i := by
  unfold ixN
  rw [if_pos (by omega), if_pos (by omega), Int.toNat_natCast]
theorem rep_none (n : Nat) : (List.replicate n [V.non]).flatten = (List.replicate n (none : Option Int)).map eV := by
  induction n with
  | zero => rfl
  | succ n ih => rw [List.replicate_succ, List.flatten_cons, ih, List.replicate_succ]; rfl
/-- [[None] * n for .. in range(n)] -/
theorem lc_none {b : Addr} {H0 H1 : Hp} {dd : Addr} {n : Nat} {g : TG} {te : TE} {σ : L2.St} {vs : List Nat} {Qd : Hp → Prop} (hb : Bx H0 b) (K1 : Keep b H0 H1) (b1 : Bx H1 b) (hd0 : H1 dd = none) (hn : n ≤ 12)
    (hg : ∀ (i : Nat) (H : Hp) (Q : L2.St → Hp → Prop), Q ((wipe σ vs).set 3 (some (.int (0 + (i : Nat))))) H → g (.int (0 + (i : Nat))) (wipe σ vs) H Q) (hw : ∀ i : Nat, wipe ((wipe σ vs).set 3 (some (.int (0 + (i : Nat))))) vs = wipe σ vs)
    (hte : ∀ (i : Nat) (H : Hp) (Q : VK), (∀ p H', Same H H' → H p = none → H' p = some (.lst ((List.replicate n (none : Option Int)).map eV)) → Q (.ref p) H') → te ((wipe σ vs).set 3 (some (.int (0 + (i : Nat))))) H Q)
    (hd : ∀ H' as, Keep b H0 H' → Bx H' b → Rws H0 H' dd as n (-1) → Qd H') :
    ∃ W : Nat → Nat → Hp → Prop, (∃ m, W 0 m (upd H1 dd (.lst []))) ∧ ∀ i m H, W i m H →
      ((Itr 0 ((n : Nat) : Int).toNat).stop i H ∧ Qd H) ∨ ((Itr 0 ((n : Nat) : Int).toNat).go i H ∧ ∃ Nx : Hp → Prop, (∀ H', Nx H' → ∃ m', m' < m ∧ W (i + 1) m' H') ∧ ∀ x H', (Itr 0 ((n : Nat) : Int).toNat).yld i H x H' → g x (wipe σ vs) H' fun σ2 H2 => wipe σ2 vs = wipe σ vs ∧ tYes σ2 H2 fun b H3 =>
        if b = true then te σ2 H3 fun y H4 => ∃ acc, H4 dd = some (.lst acc) ∧ acc.length < sizeLine ∧ Nx (upd H4 dd (.lst (acc ++ [y]))) else Nx H3) := by
  have nd := b1.ne hd0
  have hdH : H0 dd = none := K1.free hd0 nd
  refine lc_range (lo := 0) (n := ((n : Nat) : Int).toNat) (fun i H' => Keep b H0 H' ∧ Bx H' b ∧ ∃ as : List Addr, H' dd = some (.lst (as.map V.ref)) ∧ as.length = i ∧ (∀ a ∈ as, H0 a = none ∧ a ≠ dd ∧ H' a = some (.lst ((List.replicate n (none : Option Int)).map eV))))
    ⟨K1.updN hdH, b1.upd nd, [], upd_same, rfl, fun _ z => by cases z⟩ (fun i H2 hi ⟨K2, b2, as, e2, l2, h2⟩ => ?_) fun H2 ⟨K2, b2, as, e2, l2, h2⟩ => ?_
  · rw [Int.toNat_natCast] at hi
    refine hg i H2 _ ⟨hw i, ?_⟩
    refine hte i H2 _ fun p H3 S3 hp e3 => ?_
    have np : p ≠ dd := (ne_of_none e2 hp).symm
    have npb := b2.ne hp
    have K3 : Keep b H0 H3 := K2.trans (Keep.of S3)
    refine ⟨as.map V.ref, S3 _ _ e2, by rw [List.length_map]; exact small1000 (by omega), K3.updN hdH, (b2.same S3).upd nd, as ++ [p], by rw [upd_same, List.map_append]; rfl, by rw [List.length_append, l2]; rfl, fun a ha => ?_⟩
    rcases List.mem_append.mp ha with z | z
    · obtain ⟨z1, z2, z3⟩ := h2 a z
      exact ⟨z1, z2, by rw [upd_ne z2]; exact S3 _ _ z3⟩
    · have ez := List.mem_singleton.mp z
      subst ez
      exact ⟨K2.free hp npb, np, by rw [upd_ne np]; exact e3⟩
  · rw [Int.toNat_natCast] at l2
    refine hd H2 as K2 b2 ⟨e2, l2, fun a ha => ⟨_, (h2 a ha).2.2, by rw [List.length_replicate], fun c hc => ?_⟩, hdH, fun a ha => (h2 a ha).1⟩
    rw [List.mem_replicate] at hc
    cases hc.2
end K7
end

section
-- K7Tabs
set_option Elab.async false
set_option linter.all false
set_option maxRecDepth 100000
set_option maxHeartbeats 4000000
/-! tables of states: lists of ints in a list, compared as data. -/
namespace K7
open PySem PySem.Spec PyProof.Rows L2
def dR (row : List (Option Int)) : PyData := .list (row.map dE)
theorem dp_row {K : PySem.W.Frag} {H : Hp} : ∀ row : List (Option Int), DpAll K H (row.map eV) (row.map dE)
  | [] => .nil
  | none :: row => .cons .non (dp_row row)
  | some i :: row => .cons (.int i) (dp_row row)
theorem dp_lstE {K : PySem.W.Frag} {H : Hp} {a : Addr} {row : List (Option Int)} (h : H a = some (.lst (row.map eV))) : Dp K H (.ref a) (dR row) := .lst (SqL.of h) (dp_row row)
theorem dp_rowsA {K : PySem.W.Frag} {H : Hp} : ∀ (as : List Addr) (rows : Rw), as.length = rows.length → (∀ (i : Nat) (a : Addr) (row : List (Option Int)), as[i]? = some a → rows[i]? = some row → H a = some (.lst (row.map eV))) → DpAll K H (as.map V.ref) (rows.map dR)
  | [], [], _, _ => .nil
  | [], _ :: _, h, _ => by cases h
  | _ :: _, [], h, _ => by cases h
  | a :: as, row :: rows, h, k => .cons (dp_lstE (k 0 a row rfl rfl)) (dp_rowsA as rows (Nat.succ.inj h) fun i b r e1 e2 => k (i + 1) b r e1 e2)
theorem dp_rows {K : PySem.W.Frag} {H : Hp} {r : Addr} {as : List Addr} {rows : Rw} (h : RL H r as rows) : Dp K H (.ref r) (.list (rows.map dR)) := .lst (SqL.of h.1) (dp_rowsA as rows h.2.1 h.2.2)
theorem lay_row : ∀ row : List (Option Int), PyData.canLayAll0 (row.map dE) = true
  | [] => rfl
  | none :: row => by show (PyData.canLay0 .none && PyData.canLayAll0 (row.map dE)) = true; rw [lay_row row]; rfl
  | some i :: row => by show (PyData.canLay0 (.int i) && PyData.canLayAll0 (row.map dE)) = true; rw [lay_row row]; rfl
theorem dep_row : ∀ row : List (Option Int), PyData.depthAll (row.map dE) = 0
  | [] => rfl
  | none :: row => by show max (PyData.depth .none) (PyData.depthAll (row.map dE)) = 0; rw [dep_row row]; rfl
  | some i :: row => by show max (PyData.depth (.int i)) (PyData.depthAll (row.map dE)) = 0; rw [dep_row row]; rfl
theorem lay_rows : ∀ rows : Rw, PyData.canLayAll0 (rows.map dR) = true
  | [] => rfl
  | row :: rows => by show (PyData.canLayAll0 (row.map dE) && PyData.canLayAll0 (rows.map dR)) = true; rw [lay_row, lay_rows rows]; rfl
theorem dep_rows : ∀ rows : Rw, PyData.depthAll (rows.map dR) ≤ 1
  | [] => by decide
  | row :: rows => by
    show max (PyData.depthAll (row.map dE) + 1) (PyData.depthAll (rows.map dR)) ≤ 1
    rw [dep_row]
    have := dep_rows rows
    omega
theorem sh_row (row : List (Option Int)) : SeqAt.shaped (dR row) = true := by
  unfold SeqAt.shaped
  rw [show PyData.canLay0 (dR row) = true from lay_row row, show PyData.depth (dR row) = 1 by show PyData.depthAll (row.map dE) + 1 = 1; rw [dep_row]]
  rfl
theorem sh_rows (rows : Rw) : SeqAt.shaped (.list (rows.map dR)) = true := by
  unfold SeqAt.shaped
  rw [show PyData.canLay0 (.list (rows.map dR)) = true from lay_rows rows, Bool.true_and]
  refine decide_eq_true ?_
  show PyData.depthAll (rows.map dR) + 1 ≤ 64
  have := dep_rows rows
  omega
theorem eqv_row : ∀ p q : List (Option Int), PyData.eqvAll (p.map dE) (q.map dE) = decide (p = q)
  | [], [] => by simp [PyData.eqvAll]
  | [], _ :: _ => by simp [PyData.eqvAll]
  | _ :: _, [] => by simp [PyData.eqvAll]
  | a :: p, b :: q => by
    show (PyData.eqv (dE a) (dE b) && PyData.eqvAll (p.map dE) (q.map dE)) = _
    rw [eqv_row p q]
    have : PyData.eqv (dE a) (dE b) = decide (a = b) := by
      cases a <;> cases b <;> simp [dE, PyData.eqv]
      rfl
    rw [this]
    simp
theorem eqv_dR (p q : List (Option Int)) : PyData.eqv (dR p) (dR q) = decide (p = q) := eqv_row p q
theorem ne_nilR (rows : Rw) : PyData.eqv (.list (rows.map dR)) (.list []) = rows.isEmpty := by cases rows <;> rfl
/-- the first equal one -/
theorem first_of : ∀ {rows : Rw} {d : List (Option Int)}, ((rows.map dR).any fun z => PyData.eqv z (dR d)) = true → ∃ j : Nat, rows[j]? = some d ∧ ∀ (m : Nat) z, m < j → rows[m]? = some z → z ≠ d
  | [], d, h => by cases h
  | r :: rows, d, h => by
    by_cases e : r = d
    · exact ⟨0, by rw [e]; rfl, fun m z hm => absurd hm (Nat.not_lt_zero _)⟩
    · have h2 : ((rows.map dR).any fun z => PyData.eqv z (dR d)) = true := by
        have h3 : (PyData.eqv (dR r) (dR d) || ((rows.map dR).any fun z => PyData.eqv z (dR d))) = true := h
        rw [eqv_dR, decide_eq_false e, Bool.false_or] at h3
        exact h3
      obtain ⟨j, h1, h2⟩ := first_of h2
      refine ⟨j + 1, h1, fun m z hm ez => ?_⟩
      cases m with
      | zero => cases ez; exact e
      | succ m => exact h2 m z (by omega) ez
/-- some ints below st -/
def TabR (st : Nat) (q : List (Option Int)) : Prop := q.length = st ∧ ∀ e ∈ q, ∃ c : Nat, e = some ((c : Nat) : Int) ∧ c < st
def idR (n : Nat) : List (Option Int) := (List.range n).map fun i => some ((i : Nat) : Int)
theorem rgV_idR (n : Nat) : rgV 0 ((n : Nat) : Int) = (idR n).map eV := by
  unfold rgV idR
  rw [List.map_map, show (((n : Nat) : Int) - 0).toNat = n by omega]
  congr 1
  funext i
  show V.int (0 + ((i : Nat) : Int)) = V.int ((i : Nat) : Int)
  rw [Int.zero_add]
theorem idR_tab (n : Nat) : TabR n (idR n) := by
  refine ⟨by unfold idR; rw [List.length_map, List.length_range], fun e he => ?_⟩
  obtain ⟨i, hi, rfl⟩ := List.mem_map.mp he
  exact ⟨i, rfl, List.mem_range.mp hi⟩
theorem rep_zero (n : Nat) : (List.replicate n [V.int 0]).flatten = (List.replicate n (some (0 : Int))).map eV := by
  induction n with
  | zero => rfl
  | succ n ih => rw [List.replicate_succ, List.flatten_cons, ih, List.replicate_succ]; rfl
theorem zero_tab {n : Nat} (h : 0 < n) : TabR n (List.replicate n (some 0)) := by
  refine ⟨List.length_replicate .., fun e he => ⟨0, (List.mem_replicate.mp he).2, h⟩⟩
/-- the tables at l, new since H0 -/
structure Tabs (H0 H : Hp) (l : Addr) (ts : List Addr) (qs : Rw) (st : Nat) : Prop where
  rl : RL H l ts qs
  tab : ∀ q ∈ qs, TabR st q
  newL : H0 l = none
  newT : ∀ t ∈ ts, H0 t = none
theorem Tabs.same {H0 H H' : Hp} {l : Addr} {ts : List Addr} {qs : Rw} {st : Nat} (h : Tabs H0 H l ts qs st) (s : Same H H') : Tabs H0 H' l ts qs st := ⟨h.rl.same s, h.tab, h.newL, h.newT⟩
theorem Tabs.keep {H0 H H' : Hp} {l b : Addr} {ts : List Addr} {qs : Rw} {st : Nat} (h : Tabs H0 H l ts qs st) (hb : Bx H0 b) (s : Keep b H H') : Tabs H0 H' l ts qs st :=
  ⟨h.rl.keep s (hb.ne h.newL) fun a ha => hb.ne (h.newT a ha), h.tab, h.newL, h.newT⟩
theorem Tabs.off {H0 H : Hp} {l p : Addr} {ts : List Addr} {qs : Rw} {st : Nat} (h : Tabs H0 H l ts qs st) (hp : H p = none) : l ≠ p ∧ ∀ a ∈ ts, a ≠ p := h.rl.off hp
theorem RL.updO {H : Hp} {r p : Addr} {as : List Addr} {rows : Rw} {o : HO} (h : RL H r as rows) (h1 : r ≠ p) (h2 : ∀ a ∈ as, a ≠ p) : RL (upd H p o) r as rows :=
  ⟨by rw [upd_ne h1]; exact h.1, h.2.1, fun i a row e1 e2 => by rw [upd_ne (h2 a (List.mem_of_getElem? e1))]; exact h.2.2 i a row e1 e2⟩
theorem Tabs.updO {H0 H : Hp} {l p : Addr} {ts : List Addr} {qs : Rw} {st : Nat} {o : HO} (h : Tabs H0 H l ts qs st) (h1 : l ≠ p) (h2 : ∀ a ∈ ts, a ≠ p) : Tabs H0 (upd H p o) l ts qs st := ⟨h.rl.updO h1 h2, h.tab, h.newL, h.newT⟩
theorem RL.snoc {H : Hp} {r p : Addr} {as : List Addr} {rows : Rw} {row : List (Option Int)} (h : RL H r as rows) (hr : ∀ a ∈ as, a ≠ r) (hp : H p = some (.lst (row.map eV))) (np : p ≠ r) : RL (upd H r (.lst (as.map V.ref ++ [.ref p]))) r (as ++ [p]) (rows ++ [row]) := by
  refine ⟨by rw [upd_same, List.map_append]; rfl, by rw [List.length_append, List.length_append, h.2.1]; rfl, fun i a row' e1 e2 => ?_⟩
  by_cases hi : i < as.length
  · rw [List.getElem?_append_left hi] at e1
    rw [List.getElem?_append_left (by rw [← h.2.1]; exact hi)] at e2
    rw [upd_ne (hr a (List.mem_of_getElem? e1))]
    exact h.2.2 i a row' e1 e2
  · rw [List.getElem?_append_right (by omega)] at e1
    rw [List.getElem?_append_right (by rw [← h.2.1]; omega)] at e2
    have hi' : i = as.length := by
      have := lt_of e1
      simp at this
      omega
    rw [hi', Nat.sub_self] at e1
    rw [hi', h.2.1, Nat.sub_self] at e2
    cases e1; cases e2
    rw [upd_ne np]
    exact hp
/-- a new list of the same lists and one more -/
theorem RL.more {H H' : Hp} {r l p : Addr} {as : List Addr} {rows : Rw} {row : List (Option Int)} (h : RL H l as rows) (hr : H' r = some (.lst (as.map V.ref ++ [.ref p]))) (s : ∀ a ∈ as, ∀ o, H a = some o → H' a = some o) (hp : H' p = some (.lst (row.map eV))) : RL H' r (as ++ [p]) (rows ++ [row]) := by
  refine ⟨by rw [hr, List.map_append]; rfl, by rw [List.length_append, List.length_append, h.2.1]; rfl, fun i a row' e1 e2 => ?_⟩
  by_cases hi : i < as.length
  · rw [List.getElem?_append_left hi] at e1
    rw [List.getElem?_append_left (by rw [← h.2.1]; exact hi)] at e2
    exact s a (List.mem_of_getElem? e1) _ (h.2.2 i a row' e1 e2)
  · rw [List.getElem?_append_right (by omega)] at e1
    rw [List.getElem?_append_right (by rw [← h.2.1]; omega)] at e2
    have hi' : i = as.length := by
      have := lt_of e1
      simp at this
      omega
    rw [hi', Nat.sub_self] at e1
    rw [hi', h.2.1, Nat.sub_self] at e2
    cases e1; cases e2
    exact hp
/-- the list of lists is none of its lists -/
theorem RL.apart {H : Hp} {r : Addr} {as : List Addr} {rows : Rw} (h : RL H r as rows) : ∀ a ∈ as, a ≠ r := fun a ha z => by
  obtain ⟨i, hi⟩ := List.mem_iff_getElem?.mp ha
  have hl : i < rows.length := by rw [← h.2.1]; exact lt_of hi
  have e := h.2.2 i a _ hi (List.getElem?_eq_getElem hl)
  rw [z, h.1] at e
  have e' : as.map V.ref = (rows[i]).map eV := by injection e with e; injection e
  cases as with
  | nil => cases ha
  | cons b bs =>
    cases hrow : rows[i] with
    | nil => rw [hrow] at e'; cases e'
    | cons x xs =>
      rw [hrow] at e'
      have : V.ref b = eV x := by injection e'
      cases x <;> cases this
end K7
end

section
-- K7Rows
set_option Elab.async false
set_option linter.all false
set_option maxRecDepth 100000
set_option maxHeartbeats 4000000
/-! the law's rows. -/
namespace K7
open PySem PySem.Spec PyProof.Rows L2
def scRow1 : Scope := { kind := .function, names := [(PySem.Str.ofString ".0", .local), (PySem.Str.ofString "_law_row", .local), (PySem.Str.ofString "_law_many", .free)], isGenerator := false, isCoroutine := false, more := [] }
def spLRows : Sp := fun vs H Q _ => ∃ (b : Addr) (t : Nat), vs = [.ref b, .int (t : Nat)] ∧ Bx H b ∧ ∀ H' r as rows n, Keep b H H' → Bx H' b → RL H' r as rows → Sq rows n → H r = none → (∀ a ∈ as, H a = none) → Q (.ref r) H'
section
variable {w : World} {K : PySem.W.Frag} {mg : Str → Option Value} {base : Heap} {C CQ CW CR : Addr}
abbrev scLRN : List Str := ["_law_box_here", "_law_turn", "_law_way", "_law_one", "_law_rows_here", "_law_other", "_law_end_here", "_law_many", "_law_row", "_law_states", "_law_tables", "_law_table", "_law_ends", "_law_done", "_law_state"]
theorem scLR : FnScope scLRN ["_law_box_here", "_law_turn"] (defScope sLRows) := ⟨rfl, rfl, rfl, by decide +kernel, rfl, by decide +kernel, by decide +kernel⟩
theorem asg_join {te : TE} {u : TS} {i : Nat} {D : Ends} {σ : L2.St} {H : Hp} {F : Addr → Hp → Prop} (hte : ∀ Q : VK, (∀ l H', F l H' → Q (.ref l) H') → te σ H Q) (k : ∀ l H', F l H' → u D (σ.set i (some (.ref l))) H') : tSeq (tAsg te (gName i)) u D σ H := hte _ k
theorem ok_lrows (D : DefAt K mg "_law_rows" sLRows) (T : Txt K mg C) (G__law_take : Keeps w K mg base CX0 "_law_take" 1 ["_law_box_here", "_law_many"] spLTake) : Keeps w K mg base CX0 "_law_rows" 2 ["_law_box_here", "_law_turn"] spLRows := by
  refine keeps0 D scLR (fun vs H Q E h => ?_) (fun _ _ _ _ _ _ us hl => match us, hl with | [_, _], _ => rfl) fun f cdv A outer s H vs Q E hr h => ?_
  · obtain ⟨b, t, rfl, _⟩ := h
    rfl
  · obtain ⟨b, t, rfl, hb, k⟩ := h
    refine ⟨_, (pss_cons (ps_set (i := 2) scLR.nd rfl (Or.inl rfl) (pe_k G__law_take rfl (hr.mono (by decide)) (by rfl) pass0 (pa_cons (pv 0) (pa_cons pe_int pa_nil))))
      (pss_cons (ps_if (PW.pt (pw_and (pt_cmpR op_eq (pv 2) pe_int (nomark _)) (pw_and1 (pt_cmpR op_eq (pv 1) pe_int (nomark _))))) (pss_cons (ps_setLc (i := 4) (own := [("_law_one", 3)]) (g := gName 3) rfl scLR.nd rfl rfl (sw_true rfl rfl rfl (by decide +kernel)) (pi_range1 (by rfl) T.range (pa_cons pe_int pa_nil)) (blkOk_by (own := [("_law_one", 3)]) (N := scLRN) (sc := defScope sLRows) (by decide +kernel)) (fun _ _ _ _ _ => (pg_name (i := 3) scLR.nd rfl (Or.inl rfl))) (fun _ _ _ _ _ => pts_nil) (fun _ _ _ _ _ => (pe_op op_rep (pe_lst (pa_cons pe_non pa_nil)) pe_int)))
      (pss_cons (ps_for PassesOwn.never rfl (pi_tup (pe_tup (pa_cons (pe_tup (pa_cons pe_int (pa_cons pe_int (pa_cons pe_int pa_nil)))) (pa_cons (pe_tup (pa_cons pe_int (pa_cons pe_int (pa_cons pe_int pa_nil)))) (pa_cons (pe_tup (pa_cons pe_int (pa_cons pe_int (pa_cons (pe_k G__law_take rfl (hr.mono (by decide)) (by rfl) pass0 (pa_cons (pv 0) (pa_cons pe_int pa_nil))) pa_nil)))) pa_nil))))) (pg_tupK K (n := 3) (by rfl) (pgs_cons (pg_name (i := 3) scLR.nd rfl (Or.inl rfl)) (pgs_cons (pg_name (i := 5) scLR.nd rfl (Or.inr rfl)) (pgs_cons (pg_name (i := 6) scLR.nd rfl (Or.inl rfl)) pgs_nil)))) (pss_one (ps_asg (pv 6) (pg_sub (pe_ix (x_list K) (pv 4) (pv 3) (fun _ _ => rfl)) (pv 5) set_list))))
      (pss_one (ps_ret (pv 4))))) pss_nil)
      (pss_cons (ps_if (pt_cmpR op_gt (pv 2) pe_int (nomark _)) (pss_cons (ps_set (i := 7) scLR.nd rfl (Or.inr rfl) (pe_op op_add pe_int (pe_k G__law_take rfl (hr.mono (by decide)) (by rfl) pass0 (pa_cons (pv 0) (pa_cons pe_int pa_nil)))))
      (pss_cons (ps_setLc (i := 4) (own := [("_law_one", 3)]) (g := gName 3) rfl scLR.nd rfl rfl (sw_true rfl rfl rfl (by decide +kernel)) (pi_range1 (by rfl) T.range (pa_cons (pv 7) pa_nil)) (blkOk_by (own := [("_law_one", 3)]) (N := scLRN) (sc := defScope sLRows) (by decide +kernel)) (fun _ _ _ _ _ => (pg_name (i := 3) scLR.nd rfl (Or.inl rfl))) (fun _ _ _ _ _ => pts_nil) (fun _ _ _ _ _ => (pe_op op_rep (pe_lst (pa_cons pe_non pa_nil)) (pv 7))))
      (pss_cons (ps_for PassesOwn.never rfl (pi_range1 (by rfl) T.range (pa_cons (pe_op op_add pe_int (pe_k G__law_take rfl (hr.mono (by decide)) (by rfl) pass0 (pa_cons (pv 0) (pa_cons pe_int pa_nil)))) pa_nil)) (pg_name (i := 1) scLR.nd rfl (Or.inl rfl)) (pss_one (ps_asg (pe_op op_sub (pe_k G__law_take rfl (hr.mono (by decide)) (by rfl) pass0 (pa_cons (pv 0) (pa_cons (pe_op op_add (pv 7) pe_int) pa_nil))) (pe_ifExp (pt_cmpR op_eq (pe_k G__law_take rfl (hr.mono (by decide)) (by rfl) pass0 (pa_cons (pv 0) (pa_cons pe_int pa_nil))) pe_int (nomark _)) pe_int pe_int)) (pg_sub (pe_ix (x_list K) (pv 4) (pe_k G__law_take rfl (hr.mono (by decide)) (by rfl) pass0 (pa_cons (pv 0) (pa_cons (pv 7) pa_nil))) (fun _ _ => rfl)) (pe_k G__law_take rfl (hr.mono (by decide)) (by rfl) pass0 (pa_cons (pv 0) (pa_cons (pv 7) pa_nil))) set_list))))
      (pss_one (ps_ret (pe_lc (own := [("_law_row", 8)]) (g := gName 8) rfl scLR.nd (p_list K (pv 4)) (blkOk_by (own := [("_law_row", 8)]) (N := scLRN) (sc := defScope sLRows) (by decide +kernel)) (fun _ _ _ _ _ => (pg_name (i := 8) scLR.nd rfl (Or.inl rfl))) (fun _ _ _ _ _ => pts_nil) (fun _ _ _ _ _ => (pe_lc (own := [("_law_end_here", 6)]) (g := gName 6) rfl scLR.nd (p_list K (pv 8)) (blkOk_by (own := [("_law_end_here", 6)]) (N := scLRN) (sc := relS scRow1 (defScope sLRows)) (by decide +kernel)) (fun _ _ _ _ _ => (pg_name (i := 6) scLR.nd rfl (Or.inl rfl))) (fun _ _ _ _ _ => pts_nil) (fun _ _ _ _ _ => (pe_ifExp (PW.pt (pw_or (pt_cmpR op_isN (pv 6) pe_non (nomark _)) (pw_or1 (pt_cmpR op_lt (pv 6) (pv 7) (nomark _))))) (pv 6) pe_non)))))))))) pss_nil)
      (pss_cons (ps_asg (pe_tup (pa_cons (pe_op op_add pe_int (pe_k G__law_take rfl (hr.mono (by decide)) (by rfl) pass0 (pa_cons (pv 0) (pa_cons pe_int pa_nil)))) (pa_cons (pe_lst pa_nil) pa_nil))) (pg_tupK K (n := 2) (by rfl) (pgs_cons (pg_name (i := 9) scLR.nd rfl (Or.inr rfl)) (pgs_cons (pg_name (i := 10) scLR.nd rfl (Or.inl rfl)) pgs_nil))))
      (pss_cons (ps_for PassesOwn.never rfl (pi_range1 (by rfl) T.range (pa_cons (pe_op op_add pe_int (pe_k G__law_take rfl (hr.mono (by decide)) (by rfl) pass0 (pa_cons (pv 0) (pa_cons pe_int pa_nil)))) pa_nil)) (pg_name (i := 1) scLR.nd rfl (Or.inl rfl)) (pss_cons (ps_setLc (i := 11) (own := [("_law_state", 14)]) (g := gName 14) rfl scLR.nd rfl rfl (sw_true rfl rfl rfl (by decide +kernel)) (pi_range1 (by rfl) T.range (pa_cons (pv 9) pa_nil)) (blkOk_by (own := [("_law_state", 14)]) (N := scLRN) (sc := defScope sLRows) (by decide +kernel)) (fun _ _ _ _ _ => (pg_name (i := 14) scLR.nd rfl (Or.inl rfl))) (fun _ _ _ _ _ => pts_nil) (fun _ _ _ _ _ => (pe_k G__law_take rfl (hr.mono (by decide)) (by rfl) pass0 (pa_cons (pv 0) (pa_cons (pv 9) pa_nil)))))
      (pss_one (ps_if (PW.pt (pw_and (pt_cmpR (op_notInD (hu_65 hr)) (pv 11) (pv 10) (by rfl)) (pw_and1 (pt_cmpR (op_neD hr.units) (pv 11) (pe_listRg rfl (by rfl) T.list (prg_1 (by rfl) T.range (pv 9))) (nomark _))))) (pss_one (ps_expr (pe_bm PySem.F.plainAttrs_list PySem.F.slot_list_append PySem.F.type_list_append mt_append (pv 10) (pa_cons (pv 11) pa_nil)))) pss_nil))))
      (pss_cons (ps_set (i := 10) scLR.nd rfl (Or.inl rfl) (pe_ifExp (pt_cmpR (op_neD hr.units) (pv 10) (pe_lst pa_nil) (nomark _)) (pv 10) (pe_lst (pa_cons (pe_op op_rep (pe_lst (pa_cons pe_int pa_nil)) (pv 9)) pa_nil))))
      (pss_cons (ps_set (i := 12) scLR.nd rfl (Or.inl rfl) (pe_op op_cat (pv 10) (pe_lst (pa_cons (pe_listRg rfl (by rfl) T.list (prg_1 (by rfl) T.range (pv 9))) pa_nil))))
      (pss_cons (ps_set (i := 4) scLR.nd rfl (Or.inl rfl) (pe_lst pa_nil))
      (pss_cons (ps_for PassesOwn.never rfl (p_list K (pv 10)) (pg_name (i := 3) scLR.nd rfl (Or.inl rfl)) (pss_cons (ps_set (i := 8) scLR.nd rfl (Or.inl rfl) (pe_lst pa_nil))
      (pss_cons (ps_for PassesOwn.never rfl (p_list K (pv 10)) (pg_name (i := 5) scLR.nd rfl (Or.inr rfl)) (pss_cons (ps_setLc (i := 13) (own := [("_law_state", 14)]) (g := gName 14) rfl scLR.nd rfl rfl (sw_true rfl rfl rfl (by decide +kernel)) (p_list K (pv 3)) (blkOk_by (own := [("_law_state", 14)]) (N := scLRN) (sc := defScope sLRows) (by decide +kernel)) (fun _ _ _ _ _ => (pg_name (i := 14) scLR.nd rfl (Or.inl rfl))) (fun _ _ _ _ _ => pts_nil) (fun _ _ _ _ _ => (pe_ix (x_list K) (pv 5) (pv 14) (fun _ _ => rfl))))
      (pss_one (ps_expr (pe_bm PySem.F.plainAttrs_list PySem.F.slot_list_append PySem.F.type_list_append mt_append (pv 8) (pa_cons (pe_ifExp (PW.pt (pw_or (pt_cmpR (op_notInD (hu_65 hr)) (pv 13) (pv 12) (by rfl)) (pw_or1 (pt_cmpR op_eq (pe_k G__law_take rfl (hr.mono (by decide)) (by rfl) pass0 (pa_cons (pv 0) (pa_cons pe_int pa_nil))) pe_int (nomark _))))) pe_non (pe_ifExp (pt_cmpR (op_neD hr.units) (pv 13) (pe_ix (x_list K) (pv 12) (pe_un un_neg pe_int) (fun _ _ => rfl)) (nomark _)) (pe_bm PySem.F.plainAttrs_list PySem.F.slot_list_index PySem.F.type_list_index (mt_indexD (hu_65 hr)) (pv 12) (pa_cons (pv 13) pa_nil)) (pe_op op_sub pe_int pe_int))) pa_nil))))))
      (pss_one (ps_expr (pe_bm PySem.F.plainAttrs_list PySem.F.slot_list_append PySem.F.type_list_append mt_append (pv 4) (pa_cons (pv 8) pa_nil)))))))
      (pss_one (ps_ret (pv 4)))))))))))), ?_⟩
    refine ⟨_, rfl, b, 6, rfl, hb, by decide, by decide, fun d H1 hd K1 b1 => ?_⟩
    have fin : ∀ (n : Nat) (H' : Hp) (r : Addr) (as : List Addr), 1 ≤ n → n ≤ 12 → Keep b H H' → Bx H' b → Rws H H' r as n ((n : Int) - 1) → Q (.ref r) H' := fun n H' r as h1 h2 K' b' R => by
      obtain ⟨rows, e1, e2⟩ := R.rl h1 h2
      exact k H' r as rows n K' b' e1 e2 R.newR R.newA
    refine ⟨_, rfl, rfl, _, rfl, ?_⟩
    refine (fun rest => ite2 (fun h => ⟨_, rfl, rfl, _, rfl, ite2 (fun h2 => ?A) (fun _ => rest)⟩) (fun _ => iteF rest)) ?R
    case A =>
      refine ⟨_, rfl, by decide, by decide, fun dd hdd => ?_⟩
      refine lc_none (b := b) (H0 := H) (n := 6) hb K1 b1 hdd (by decide) (fun i H Q q => q) (fun i => rfl) (fun i H2 Q2 q2 => ?_) fun H2 as K2 b2 R2 => ?_
      · refine ⟨by show 1 ≤ sizeLine; decide, fun p1 hp1 => ⟨p1, _, _, rfl, rfl, upd_same, by decide, by decide, by decide, fun p2 hp2 => q2 p2 _ ((same_new hp1).new hp2) ?_ ?_⟩⟩
        · exact (same_new hp1).free hp2
        · rw [upd_same]; rfl
      · -- the three struck merges
        refine ⟨by show 3 ≤ sizeLine; decide, fun t0 ht0 => ?_⟩
        have R3 := R2.same (same_new (o := .tup [.int 0, .int 1, .int 4]) ht0)
        have K3 := K2.trans (Keep.of (same_new (o := .tup [.int 0, .int 1, .int 4]) ht0))
        have b3 := b2.same (same_new (o := .tup [.int 0, .int 1, .int 4]) ht0)
        have T0 : (upd H2 t0 (.tup [.int 0, .int 1, .int 4])) t0 = some (.tup [.int 0, .int 1, .int 4]) := upd_same
        generalize upd H2 t0 (.tup [.int 0, .int 1, .int 4]) = H3 at R3 K3 b3 T0
        refine ⟨by show 3 ≤ sizeLine; decide, fun t1 ht1 => ?_⟩
        have S4 : Same H3 (upd H3 t1 (.tup [.int 1, .int 2, .int 5])) := same_new ht1
        have R4 := R3.same S4
        have K4 := K3.trans (Keep.of S4)
        have b4 := b3.same S4
        have T0 := S4 _ _ T0
        have T1 : (upd H3 t1 (.tup [.int 1, .int 2, .int 5])) t1 = some (.tup [.int 1, .int 2, .int 5]) := upd_same
        generalize upd H3 t1 (.tup [.int 1, .int 2, .int 5]) = H4 at R4 K4 b4 T0 T1 S4
        refine ⟨_, rfl, b, 4, rfl, b4, by decide, by decide, fun e H5 he K5 b5 => ?_⟩
        have R5 := R4.keep hb K5
        have K5' := K4.trans K5
        obtain ⟨_, _, eb4⟩ := b4.get
        have T0 := K5 _ _ (ne_of T0 eb4 (by intro z; cases z)) T0
        have T1 := K5 _ _ (ne_of T1 eb4 (by intro z; cases z)) T1
        refine ⟨by show 3 ≤ sizeLine; decide, fun t2 ht2 => ?_⟩
        have S6 : Same H5 (upd H5 t2 (.tup [.int 5, .int 3, .int (e : Nat)])) := same_new ht2
        have R6 := R5.same S6
        have K6 := K5'.trans (Keep.of S6)
        have b6 := b5.same S6
        have T0 := S6 _ _ T0
        have T1 := S6 _ _ T1
        have T2 : (upd H5 t2 (.tup [.int 5, .int 3, .int (e : Nat)])) t2 = some (.tup [.int 5, .int 3, .int (e : Nat)]) := upd_same
        generalize upd H5 t2 (.tup [.int 5, .int 3, .int (e : Nat)]) = H6 at R6 K6 b6 T0 T1 T2 S6
        refine ⟨by show 3 ≤ sizeLine; decide, fun u hu => ?_⟩
        have S7 : Same H6 (upd H6 u (.tup [.ref t0, .ref t1, .ref t2])) := same_new hu
        have R7 := R6.same S7
        have K7 := K6.trans (Keep.of S7)
        have b7 := b6.same S7
        have T0 := S7 _ _ T0
        have T1 := S7 _ _ T1
        have T2 := S7 _ _ T2
        have TU : (upd H6 u (.tup [.ref t0, .ref t1, .ref t2])) u = some (.tup [.ref t0, .ref t1, .ref t2]) := upd_same
        generalize upd H6 u (.tup [.ref t0, .ref t1, .ref t2]) = H7 at R7 K7 b7 T0 T1 T2 TU S7
        have item : ∀ (i : Nat) (x : V), ([V.ref t0, .ref t1, .ref t2] : List V)[i]? = some x → ∃ (tt : Addr) (o1 o2 : Nat) (c : Int), x = .ref tt ∧ H7 tt = some (.tup [.int (o1 : Nat), .int (o2 : Nat), .int c]) ∧ o1 < 6 ∧ o2 < 6 ∧ -1 ≤ c ∧ c ≤ 5 := fun i x hx => by
          match i, hx with
          | 0, hx => cases hx; exact ⟨t0, 0, 1, 4, rfl, T0, by decide, by decide, by decide, by decide⟩
          | 1, hx => cases hx; exact ⟨t1, 1, 2, 5, rfl, T1, by decide, by decide, by decide, by decide⟩
          | 2, hx => cases hx; exact ⟨t2, 5, 3, e, rfl, T2, by decide, by decide, by omega, by omega⟩
          | i + 3, hx => cases hx
        have R7' : Rws H H7 dd as 6 5 := ⟨R7.top, R7.len, fun a ha => by
          obtain ⟨row, z1, z2, z3⟩ := R7.row a ha
          exact ⟨row, z1, z2, fun c hc => by have := z3 c hc; omega⟩, R7.newR, R7.newA⟩
        refine ⟨u, rfl, ⟨_, SqT.of TU⟩, for_tup (K := K) (a := u) (xs := [V.ref t0, .ref t1, .ref t2]) (fun i σ H' => (∃ c3 c5 c6, σ = [some (.ref b), some (.int (t : Nat)), some (.int (d : Nat)), c3, some (.ref dd), c5, c6, none, none, none, none, none, none, none, none]) ∧ Keep b H H' ∧ Bx H' b ∧ Rws H H' dd as 6 5 ∧ ∀ z xs, H7 z = some (.tup xs) → H' z = some (.tup xs))
          ⟨⟨_, _, _, rfl⟩, K7, b7, R7', fun z xs h => h⟩ (fun i σ H' _ z => SqT.of (z.2.2.2.2 _ _ TU)) (fun i x σ H8 hx ⟨⟨c3, c5, c6, eσ⟩, y1, y2, y3, y4⟩ => ?_) fun σ H8 ⟨⟨c3, c5, c6, eσ⟩, y1, y2, y3, y4⟩ => ?_⟩
        · subst eσ
          obtain ⟨tt, o1, o2, c, rfl, et, l1, l2, l3, l4⟩ := item i x hx
          refine ⟨tt, _, rfl, SqT.of (y4 _ _ et), rfl, _, _, rfl, _, _, rfl, _, _, rfl, rfl, ?_⟩
          obtain ⟨a, row, g1, g2, g3, g4⟩ := y3.at_ l1
          refine ⟨_, rfl, _, rfl, _, rfl, dd, _, _, _, rfl, rfl, SqL.of y3.top, g1, _, rfl, a, _, _, o2, rfl, rfl, g3, by rw [g4]; exact ixN_nat l2, ?_⟩
          have na : a ≠ b := hb.ne (y3.newA a g2)
          refine ⟨⟨_, _, _, rfl⟩, y1.updN (y3.newA a g2), y2.upd na, y3.set (by decide) g2 g3 ⟨l3, l4⟩, fun z xs h => ?_⟩
          have h' := y4 z xs h
          rw [upd_ne (ne_of h' g3 (by intro q; cases q))]
          exact h'
        · subst eσ
          exact ⟨_, rfl, fin 6 H8 dd as (by decide) (by decide) y1 y2 y3⟩
    case R =>
      refine ⟨_, rfl, _, _, rfl, rfl, _, rfl, ?_⟩
      refine ite2 (fun h => ?_) (fun h => ?_)
      · refine ⟨_, rfl, b, 3, rfl, b1, by decide, by decide, fun m H2 hm K2 b2 => ⟨_, _, rfl, rfl, ?_⟩⟩
        have K12 := K1.trans K2
        refine ⟨_, rfl, ((3 + m : Nat) : Int), rfl, by omega, by omega, fun dd hdd => ?_⟩
        refine lc_none (b := b) (H0 := H) (n := 3 + m) hb K12 b2 hdd (by omega) (fun i H Q q => q) (fun i => rfl) (fun i H2 Q2 q2 => ?_) fun H3 as K3 b3 R3 => ?_
        · refine ⟨by show 1 ≤ sizeLine; decide, fun p1 hp1 => ⟨_, rfl, p1, ((3 + m : Nat) : Int), _, rfl, rfl, upd_same, by omega, by omega, ?_, fun p2 hp2 => q2 p2 _ ((same_new hp1).new hp2) ?_ ?_⟩⟩
          · rw [Int.toNat_natCast]; show 1 * (3 + m) ≤ 16777216; omega
          · exact (same_new hp1).free hp2
          · rw [upd_same, Int.toNat_natCast, rep_none]
        · have R3' : Rws H H3 dd as (3 + m) ((3 + m : Nat) : Int) := ⟨R3.top, R3.len, fun a ha => by
            obtain ⟨row, z1, z2, z3⟩ := R3.row a ha
            exact ⟨row, z1, z2, fun c hc => by have := z3 c hc; omega⟩, R3.newR, R3.newA⟩
          refine ⟨_, rfl, b, 6, rfl, b3, by decide, by decide, fun c H4 hc K4 b4 => ⟨_, _, rfl, rfl, ?_⟩⟩
          have R4 := R3'.keep hb K4
          refine ⟨((2 + c : Nat) : Int), rfl, by omega, by omega, for_range (lo := 0) (n := ((2 + c : Nat) : Int).toNat) (fun i σ H' => (∃ x1, σ = [some (.ref b), x1, some (.int (d : Nat)), none, some (.ref dd), none, none, some (.int ((3 + m : Nat) : Int)), none, none, none, none, none, none, none]) ∧ Keep b H H' ∧ Bx H' b ∧ Rws H H' dd as (3 + m) ((3 + m : Nat) : Int))
            ⟨⟨_, rfl⟩, K3.trans K4, b4, R4⟩ (fun i σ H5 hi ⟨⟨x1, eσ⟩, y1, y2, y3⟩ => ?_) fun σ H5 ⟨⟨x1, eσ⟩, y1, y2, y3⟩ => ?_⟩
          · subst eσ
            refine ⟨_, rfl, _, rfl, _, _, rfl, rfl, b, 3 + m + 1, rfl, y2, by omega, by omega, fun e1 H8 he1 K8 b8 => ?_⟩
            refine ⟨_, rfl, b, 4, rfl, b8, by decide, by decide, fun e2 H9 he2 K9 b9 => ?_⟩
            refine ⟨rfl, _, rfl, ?_⟩
            refine ite2 (fun _ => ?_) (fun _ => ?_)
            · refine ⟨_, _, rfl, rfl, ?_⟩
              refine ⟨_, rfl, _, rfl, _, rfl, b, 3 + m, rfl, b9, by omega, by omega, fun i H10 hi K10 b10 => ?_⟩
              have R10 := (y3.keep hb (K8.trans K9)).keep hb K10
              obtain ⟨a, row, g1, g2, g3, g4⟩ := R10.at_ hi
              refine ⟨dd, _, _, _, rfl, rfl, SqL.of R10.top, g1, ?_⟩
              refine ⟨_, rfl, _, rfl, b, 3 + m, rfl, b10, by omega, by omega, fun j H11 hj K11 b11 => ?_⟩
              have R11 := R10.keep hb K11
              have na : a ≠ b := hb.ne (R11.newA a g2)
              have g3' := K11 _ _ na g3
              refine ⟨a, _, _, j, rfl, rfl, g3', by rw [g4]; exact ixN_nat hj, ?_⟩
              exact ⟨⟨_, rfl⟩, ((((y1.trans K8).trans K9).trans K10).trans K11).updN (R11.newA a g2), b11.upd na, R11.set (by omega) g2 g3' ⟨by omega, by omega⟩⟩
            · refine ⟨_, _, rfl, rfl, ?_⟩
              refine ⟨_, rfl, _, rfl, _, rfl, b, 3 + m, rfl, b9, by omega, by omega, fun i H10 hi K10 b10 => ?_⟩
              have R10 := (y3.keep hb (K8.trans K9)).keep hb K10
              obtain ⟨a, row, g1, g2, g3, g4⟩ := R10.at_ hi
              refine ⟨dd, _, _, _, rfl, rfl, SqL.of R10.top, g1, ?_⟩
              refine ⟨_, rfl, _, rfl, b, 3 + m, rfl, b10, by omega, by omega, fun j H11 hj K11 b11 => ?_⟩
              have R11 := R10.keep hb K11
              have na : a ≠ b := hb.ne (R11.newA a g2)
              have g3' := K11 _ _ na g3
              refine ⟨a, _, _, j, rfl, rfl, g3', by rw [g4]; exact ixN_nat hj, ?_⟩
              exact ⟨⟨_, rfl⟩, ((((y1.trans K8).trans K9).trans K10).trans K11).updN (R11.newA a g2), b11.upd na, R11.set (by omega) g2 g3' ⟨by omega, by omega⟩⟩
          · subst eσ
            have len : (as.map V.ref).length = 3 + m := by rw [List.length_map]; exact y3.len
            refine ⟨_, rfl, dd, rfl, ⟨_, SqL.of y3.top⟩, fun d2 hd2 => lc_list (K := K) (a := dd) (xs := as.map V.ref)
              (fun i H' => Same H5 H' ∧ ∃ bs : List Addr, H' d2 = some (.lst (bs.map V.ref)) ∧ bs.length = i ∧ ∀ a ∈ bs, H5 a = none ∧ a ≠ d2 ∧ ∃ row : List (Option Int), H' a = some (.lst (row.map eV)) ∧ row.length = 3 + m ∧ ∀ c, some c ∈ row → -1 ≤ c ∧ c ≤ ((3 + m : Nat) : Int) - 1)
              ⟨same_new hd2, [], upd_same, rfl, fun _ z => by cases z⟩ (fun i H' _ z => SqL.of (z.1 _ _ y3.top)) (fun i x H6 hx ⟨S6, bs, e6, l6, h6⟩ => ?_) fun H6 ⟨S6, bs, e6, l6, h6⟩ => ?_⟩
            · obtain ⟨a, ea, rfl⟩ := map_item hx
              obtain ⟨row, r1, r2, r3⟩ := y3.row a (List.mem_of_getElem? ea)
              have hi := lt_of ea
              rw [y3.len] at hi
              refine ⟨rfl, _, rfl, a, rfl, ⟨_, SqL.of (S6 _ _ r1)⟩, fun d3 hd3 => lc_list (K := K) (a := a) (xs := row.map eV)
                (fun j H' => Same H6 H' ∧ ∃ row' : List (Option Int), H' d3 = some (.lst (row'.map eV)) ∧ row'.length = j ∧ ∀ c, some c ∈ row' → -1 ≤ c ∧ c ≤ ((3 + m : Nat) : Int) - 1)
                ⟨same_new hd3, [], upd_same, rfl, fun _ z => by cases z⟩ (fun j H' _ z => SqL.of (z.1 _ _ (S6 _ _ r1))) (fun j x H7 hx2 ⟨S7, row', e7, l7, h7⟩ => ?_) fun H7 ⟨S7, row', e7, l7, h7⟩ => ?_⟩
              · obtain ⟨e, ee, rfl⟩ := map_item hx2
                have hj := lt_of ee
                have step : ∀ v : Option Int, (∀ c, v = some c → -1 ≤ c ∧ c ≤ ((3 + m : Nat) : Int) - 1) → ∃ acc, H7 d3 = some (.lst acc) ∧ acc.length < sizeLine ∧ Same H6 (upd H7 d3 (.lst (acc ++ [eV v]))) ∧
                    ∃ row'' : List (Option Int), (upd H7 d3 (.lst (acc ++ [eV v]))) d3 = some (.lst (row''.map eV)) ∧ row''.length = j + 1 ∧ ∀ c, some c ∈ row'' → -1 ≤ c ∧ c ≤ ((3 + m : Nat) : Int) - 1 := fun v hv => by
                  refine ⟨_, e7, by rw [List.length_map, l7]; exact small1000 (by omega), same_upd S7 hd3, row' ++ [v], by rw [upd_same, List.map_append]; rfl, by rw [List.length_append, l7]; rfl, fun c hc => ?_⟩
                  rcases List.mem_append.mp hc with z | z
                  · exact h7 c z
                  · exact hv c (List.mem_singleton.mp z).symm
                refine ⟨rfl, _, rfl, rfl, _, rfl, ?_⟩
                cases e with
                | none => exact iteT (iteT ⟨_, rfl, step none fun c z => by cases z⟩)
                | some c =>
                  refine iteF ⟨_, rfl, _, rfl, _, _, rfl, rfl, _, rfl, ?_⟩
                  refine ite2 (fun hc => ⟨_, rfl, step (some c) fun c' z => ?_⟩) (fun _ => step none fun c z => by cases z)
                  cases z
                  have h1 := r3 c (List.mem_of_getElem? ee)
                  have h2 := of_decide_eq_true hc
                  omega
              · rw [List.length_map] at l7
                have n32 : d2 ≠ d3 := ne_of_none e6 hd3
                have S57 : Same H5 H7 := S6.trans S7
                refine ⟨_, S7 _ _ e6, by rw [List.length_map]; exact small1000 (by omega), same_upd S57 hd2, bs ++ [d3], by rw [upd_same, List.map_append]; rfl, by rw [List.length_append, l6]; rfl, fun z hz => ?_⟩
                rcases List.mem_append.mp hz with hz | hz
                · obtain ⟨z1, z2, row2, z3, z4⟩ := h6 z hz
                  exact ⟨z1, z2, row2, by rw [upd_ne z2]; exact S7 _ _ z3, z4⟩
                · have ez := List.mem_singleton.mp hz
                  subst ez
                  exact ⟨S6.free hd3, n32.symm, row', by rw [upd_ne n32.symm]; exact e7, by rw [l7]; exact r2, h7⟩
            · rw [len] at l6
              refine fin (3 + m) H6 d2 bs (by omega) (by omega) (y1.trans (Keep.of S6)) (y2.same S6) ⟨e6, l6, fun a ha => (h6 a ha).2.2, ?_, fun a ha => ?_⟩
              · exact y1.free hd2 (y2.ne hd2)
              · have := (h6 a ha).1
                exact y1.free this (y2.ne this)
      · clear h
        refine ⟨_, rfl, b, 2, rfl, b1, by decide, by decide, fun s0 H2 hs K2 b2 => ⟨_, _, rfl, rfl, Nat.zero_le _, fun l hl => ⟨by show 2 ≤ sizeLine; decide, fun p hp => ⟨p, _, rfl, SqT.of upd_same, rfl, _, _, rfl, _, _, rfl, rfl, ?_⟩⟩⟩⟩
        have K12 := K1.trans K2
        have S3 : Same H2 (upd (upd H2 l (.lst [])) p (.tup [.int ((2 + s0 : Nat) : Int), .ref l])) := (same_new hl).new hp
        have L3 : (upd (upd H2 l (.lst [])) p (.tup [.int ((2 + s0 : Nat) : Int), .ref l])) l = some (.lst []) := by rw [upd_ne (ne_of_none upd_same hp), upd_same]
        have hlH : H l = none := K12.free hl (b2.ne hl)
        show tSeq _ _ _ [some (.ref b), some (.int (t : Nat)), some (.int (d : Nat)), none, none, none, none, none, none, some (.int ((2 + s0 : Nat) : Int)), some (.ref l), none, none, none, none] (upd (upd H2 l (.lst [])) p (.tup [.int ((2 + s0 : Nat) : Int), .ref l]))
        have b3 := b2.same S3
        have K3 := K12.trans (Keep.of S3)
        generalize upd (upd H2 l (.lst [])) p (.tup [.int ((2 + s0 : Nat) : Int), .ref l]) = H3 at L3 b3 K3
        clear S3 hp b2 hl
        have T3 : Tabs H H3 l [] [] (2 + s0) := ⟨⟨L3, rfl, fun i a row e => (by cases e)⟩, fun q hq => (by cases hq), hlH, fun t ht => (by cases ht)⟩
        refine ⟨_, rfl, b, 3, rfl, b3, by decide, by decide, fun c H4 hc K4 b4 => ⟨_, _, rfl, rfl, ?_⟩⟩
        refine ⟨((2 + c : Nat) : Int), rfl, by omega, by omega, for_range (lo := 0) (n := ((2 + c : Nat) : Int).toNat) (fun i σ H' => (∃ x1 x11, σ = [some (.ref b), x1, some (.int (d : Nat)), none, none, none, none, none, none, some (.int ((2 + s0 : Nat) : Int)), some (.ref l), x11, none, none, none]) ∧ Keep b H H' ∧ Bx H' b ∧ ∃ ts qs, Tabs H H' l ts qs (2 + s0) ∧ ts.length ≤ i)
          ⟨⟨_, _, rfl⟩, K3.trans K4, b4, [], [], T3.keep hb K4, Nat.zero_le _⟩ (fun i σ H5 hi ⟨⟨x1, x11, eσ⟩, y1, y2, ts, qs, T5, hts⟩ => ?_) fun σ H5 ⟨⟨x1, x11, eσ⟩, y1, y2, ts, qs, T5, hts⟩ => ?_⟩
        · subst eσ
          rw [Int.toNat_natCast] at hi
          -- a table
          refine ⟨_, rfl, ((2 + s0 : Nat) : Int), rfl, by omega, by omega, fun d3 hd3 => ?_⟩
          have o3 := T5.off hd3
          have n3 := y2.ne hd3
          have h3H := y1.free hd3 n3
          refine lc_range (lo := 0) (n := ((2 + s0 : Nat) : Int).toNat) (fun j H' => Keep b H H' ∧ Bx H' b ∧ Tabs H H' l ts qs (2 + s0) ∧ ∃ row : List (Option Int), H' d3 = some (.lst (row.map eV)) ∧ row.length = j ∧ ∀ e ∈ row, ∃ c : Nat, e = some ((c : Nat) : Int) ∧ c < 2 + s0)
            ⟨y1.updN h3H, y2.upd n3, T5.updO o3.1 o3.2, [], upd_same, rfl, fun e he => by cases he⟩ (fun j H6 hj ⟨K6, b6, T6, row, e6, l6, h6⟩ => ?_) fun H6 ⟨K6, b6, T6, row, e6, l6, h6⟩ => ?_
          · rw [Int.toNat_natCast] at hj
            refine ⟨rfl, _, rfl, _, rfl, b, 2 + s0, rfl, b6, by omega, by omega, fun e H7 he K7 b7 => ?_⟩
            refine ⟨_, K7 _ _ n3 e6, by rw [List.length_map, l6]; exact small1000 (by omega), (K6.trans K7).updN h3H, b7.upd n3, (T6.keep hb K7).updO o3.1 o3.2, row ++ [some ((e : Nat) : Int)], by rw [upd_same, List.map_append]; rfl, by rw [List.length_append, l6]; rfl, fun z hz => ?_⟩
            rcases List.mem_append.mp hz with z1 | z1
            · exact h6 z z1
            · exact ⟨e, List.mem_singleton.mp z1, he⟩
          · rw [Int.toNat_natCast] at l6
            have keep : ∀ H7, Same H6 H7 → (∃ x1 x11, [some (V.ref b), some (.int (0 + (i : Nat))), some (.int (d : Nat)), none, none, none, none, none, none, some (.int ((2 + s0 : Nat) : Int)), some (.ref l), some (.ref d3), none, none, none] = [some (.ref b), x1, some (.int (d : Nat)), none, none, none, none, none, none, some (.int ((2 + s0 : Nat) : Int)), some (.ref l), x11, none, none, none]) ∧
                Keep b H H7 ∧ Bx H7 b ∧ ∃ ts qs, Tabs H H7 l ts qs (2 + s0) ∧ ts.length ≤ i + 1 := fun H7 S7 => ⟨⟨_, _, rfl⟩, K6.trans (Keep.of S7), b6.same S7, ts, qs, T6.same S7, by omega⟩
            refine ⟨_, rfl, _, rfl, dR row, qs.map dR, dp_lstE e6, dp_rows T6.rl, sh_row row, sh_rows qs, _, rfl, ?_⟩
            refine ite2 (fun _ => ?_) (fun _ => iteF (keep H6 (Same.refl _)))
            refine ⟨_, rfl, _, rfl, _, rfl, RgOk.of_le (by decide) (by omega) (by decide) (by omega), fun q1 hq1 => ?_⟩
            have S7 : Same H6 (upd H6 q1 (.lst (rgV 0 ((2 + s0 : Nat) : Int)))) := same_new hq1
            have Q7 : (upd H6 q1 (.lst (rgV 0 ((2 + s0 : Nat) : Int)))) q1 = some (.lst ((idR (2 + s0)).map eV)) := by rw [upd_same, rgV_idR]
            show rNeD K (.ref d3) (.ref q1) (upd H6 q1 (.lst (rgV 0 ((2 + s0 : Nat) : Int)))) _
            generalize upd H6 q1 (.lst (rgV 0 ((2 + s0 : Nat) : Int))) = H7 at S7 Q7
            refine ⟨dR row, dR (idR (2 + s0)), dp_lstE (S7 _ _ e6), dp_lstE Q7, sh_row _, sh_row _, _, rfl, ?_⟩
            refine ite2 (fun _ => ?_) (fun _ => keep H7 S7)
            have T7 := T6.same S7
            refine ⟨_, rfl, .inl ⟨rfl, _, SqL.of T7.rl.1⟩, _, rfl, l, _, _, rfl, rfl, T7.rl.1, by rw [List.length_map]; exact small1000 (by omega), ?_⟩
            have nl := hb.ne hlH
            refine ⟨⟨_, _, rfl⟩, (K6.trans (Keep.of S7)).updN hlH, (b6.same S7).upd nl, ts ++ [d3], qs ++ [row], ⟨T7.rl.snoc T7.rl.apart (S7 _ _ e6) o3.1.symm, fun q hq => ?_, hlH, fun z hz => ?_⟩, by rw [List.length_append]; show ts.length + 1 ≤ i + 1; omega⟩
            · rcases List.mem_append.mp hq with z | z
              · exact T6.tab q z
              · rw [List.mem_singleton.mp z]; exact ⟨l6, h6⟩
            · rcases List.mem_append.mp hz with z1 | z1
              · exact T6.newT z z1
              · rw [List.mem_singleton.mp z1]; exact h3H
        · subst eσ
          rw [Int.toNat_natCast] at hts
          have hts4 : ts.length ≤ 4 := by omega
          clear b4 K4 T3 L3 b3 K3 K12 K2 hc
          -- the tables, one at least
          dsimp only
          show tSeq _ _ _ _ _
          refine asg_join (F := fun l' H' => (∃ ts qs, Tabs H H' l' ts qs (2 + s0) ∧ 1 ≤ ts.length ∧ ts.length ≤ 4) ∧ Keep b H H' ∧ Bx H' b) (fun Q1 rest => ?_) ?_
          · refine ⟨_, rfl, Nat.zero_le _, fun p1 hp1 => ?_⟩
            have S6 : Same H5 (upd H5 p1 (.lst [])) := same_new hp1
            have P6 : (upd H5 p1 (.lst [])) p1 = some (.lst []) := upd_same
            generalize upd H5 p1 (.lst []) = H6 at S6 P6
            have T6 := T5.same S6
            refine ⟨.list (qs.map dR), .list [], dp_rows T6.rl, .lst (SqL.of P6) .nil, sh_rows qs, by decide, _, rfl, ?_⟩
            rw [ne_nilR]
            have n1 : (!qs.isEmpty) = true → 1 ≤ ts.length := fun hne => by
              have := T6.rl.2.1
              cases qs with
              | nil => cases hne
              | cons q qs => rw [this]; exact Nat.succ_le_succ (Nat.zero_le _)
            refine ite2 (fun hne => ⟨_, rfl, ?_⟩) (fun _ => ?_)
            · exact rest l H6 ⟨⟨ts, qs, T6, n1 hne, hts4⟩, y1.trans (Keep.of S6), y2.same S6⟩
            · refine ⟨by show 1 ≤ sizeLine; decide, fun p2 hp2 => ⟨_, rfl, p2, ((2 + s0 : Nat) : Int), _, rfl, rfl, upd_same, by omega, by omega, ?_, fun p3 hp3 => ⟨by show 1 ≤ sizeLine; decide, fun p4 hp4 => ?_⟩⟩⟩
              · rw [Int.toNat_natCast]; show 1 * (2 + s0) ≤ 16777216; omega
              · have S7 : Same H6 (upd H6 p2 (.lst [.int 0])) := same_new hp2
                have S8 : Same H6 (upd (upd H6 p2 (.lst [.int 0])) p3 (.lst (List.replicate (((2 + s0 : Nat) : Int)).toNat [V.int 0]).flatten)) := S7.new hp3
                have e3 : (upd (upd H6 p2 (.lst [.int 0])) p3 (.lst (List.replicate (((2 + s0 : Nat) : Int)).toNat [V.int 0]).flatten)) p3 = some (.lst ((List.replicate (2 + s0) (some (0 : Int))).map eV)) := by rw [upd_same, Int.toNat_natCast, rep_zero]
                have h3 : H6 p3 = none := S7.free hp3
                have h4 : H6 p4 = none := S8.free hp4
                have b6 := y2.same S6
                have K6 := y1.trans (Keep.of S6)
                refine rest p4 _ ⟨⟨[p3], [List.replicate (2 + s0) (some 0)], ⟨⟨upd_same, rfl, fun i a row e1 e2 => ?_⟩, fun q hq => ?_, K6.free h4 (b6.ne h4), fun z hz => ?_⟩, Nat.le_refl _, by show 1 ≤ 4; decide⟩, K6.trans (Keep.of (S8.new hp4)), b6.same (S8.new hp4)⟩
                · cases i with
                  | zero => cases e1; cases e2; exact same_new hp4 _ _ e3
                  | succ i => cases e1
                · rw [List.mem_singleton.mp hq]; exact zero_tab (by omega)
                · rw [List.mem_singleton.mp hz]; exact K6.free h3 (b6.ne h3)
          · rintro l' H7 ⟨⟨ts', qs', T7, n1, n4⟩, K7, b7⟩
            clear T5 y1 y2 hts hts4
            have lq : qs'.length = ts'.length := T7.rl.2.1.symm
            -- ends = tables + [list(range(states))]
            refine ⟨_, rfl, _, rfl, _, rfl, RgOk.of_le (by decide) (by omega) (by decide) (by omega), fun q1 hq1 => ⟨by show 1 ≤ sizeLine; decide, fun q2 hq2 => ⟨_, _, _, _, rfl, rfl, same_new hq2 _ _ (same_new hq1 _ _ T7.rl.1), upd_same, by rw [List.length_map]; show _ ≤ 16777216; show ts'.length + 1 ≤ 16777216; omega, fun e0 he0 => ?_⟩⟩⟩
            have S8 : Same H7 (upd (upd (upd H7 q1 (.lst (rgV 0 ((2 + s0 : Nat) : Int)))) q2 (.lst [.ref q1])) e0 (.lst (ts'.map V.ref ++ [.ref q1]))) := ((same_new hq1).new hq2).new he0
            have Q8 : (upd (upd (upd H7 q1 (.lst (rgV 0 ((2 + s0 : Nat) : Int)))) q2 (.lst [.ref q1])) e0 (.lst (ts'.map V.ref ++ [.ref q1]))) q1 = some (.lst ((idR (2 + s0)).map eV)) :=
              same_new he0 _ _ (same_new hq2 _ _ (by rw [upd_same, rgV_idR]))
            have E8 : (upd (upd (upd H7 q1 (.lst (rgV 0 ((2 + s0 : Nat) : Int)))) q2 (.lst [.ref q1])) e0 (.lst (ts'.map V.ref ++ [.ref q1]))) e0 = some (.lst (ts'.map V.ref ++ [.ref q1])) := upd_same
            have ne0 : H7 e0 = none := ((same_new (o := .lst (rgV 0 ((2 + s0 : Nat) : Int))) hq1).new (o := .lst [.ref q1]) hq2).free he0
            dsimp only
            show tSeq _ _ _ _ (upd (upd (upd H7 q1 (.lst (rgV 0 ((2 + s0 : Nat) : Int)))) q2 (.lst [.ref q1])) e0 (.lst (ts'.map V.ref ++ [.ref q1])))
            generalize upd (upd (upd H7 q1 (.lst (rgV 0 ((2 + s0 : Nat) : Int)))) q2 (.lst [.ref q1])) e0 (.lst (ts'.map V.ref ++ [.ref q1])) = H8 at S8 Q8 E8
            have T8 := T7.same S8
            have K8 := K7.trans (Keep.of S8)
            have b8 := b7.same S8
            have RE : RL H8 e0 (ts' ++ [q1]) (qs' ++ [idR (2 + s0)]) := T7.rl.more E8 (fun a ha o e => S8 _ _ e) Q8
            have e0H : H e0 = none := K7.free ne0 (b7.ne ne0)
            have q1H : H q1 = none := K7.free hq1 (b7.ne hq1)
            clear hq1 hq2 he0 S8 ne0
            refine ⟨Nat.zero_le _, fun r0 hr0 => ?_⟩
            have S9 : Same H8 (upd H8 r0 (.lst [])) := same_new hr0
            have R9 : (upd H8 r0 (.lst [])) r0 = some (.lst (([] : List Addr).map V.ref)) := upd_same
            generalize upd H8 r0 (.lst []) = H9 at S9 R9
            have r0b := b8.ne hr0
            have tabs : ∀ H', Keep b H8 H' → Tabs H H' l' ts' qs' (2 + s0) ∧ RL H' e0 (ts' ++ [q1]) (qs' ++ [idR (2 + s0)]) := fun H' s => ⟨T8.keep hb s, RE.keep s (hb.ne e0H) fun a ha => by
              rcases List.mem_append.mp ha with z | z
              · exact hb.ne (T8.newT a z)
              · rw [List.mem_singleton.mp z]; exact hb.ne q1H⟩
            refine ⟨_, rfl, l', rfl, ⟨_, SqL.of (S9 _ _ T8.rl.1)⟩, for_list (K := K) (a := l') (xs := ts'.map V.ref) (fun i σ H' => (∃ x3 x5 x8 x13, σ = [some (.ref b), x1, some (.int (d : Nat)), x3, some (.ref r0), x5, none, none, x8, some (.int ((2 + s0 : Nat) : Int)), some (.ref l'), x11, some (.ref e0), x13, none]) ∧ Keep b H8 H' ∧ Bx H' b ∧
                ∃ bs : List Addr, H' r0 = some (.lst (bs.map V.ref)) ∧ bs.length = i ∧ ∀ a ∈ bs, H8 a = none ∧ a ≠ r0 ∧ ∃ row : List (Option Int), H' a = some (.lst (row.map eV)) ∧ row.length = ts'.length ∧ ∀ c, some c ∈ row → -1 ≤ c ∧ c ≤ ((ts'.length : Nat) : Int) - 1)
              ⟨⟨_, _, _, _, rfl⟩, Keep.of S9, b8.same S9, [], R9, rfl, fun _ z => by cases z⟩ (fun i σ H' _ z => SqL.of (tabs H' z.2.1).1.rl.1) (fun i x σ HA hx ⟨⟨x3, x5, x8, x13, eσ⟩, KA, bA, bs, rA, lA, hA⟩ => ?_) fun σ HA ⟨⟨x3, x5, x8, x13, eσ⟩, KA, bA, bs, rA, lA, hA⟩ => ?_⟩
            · subst eσ
              obtain ⟨ti, eti, rfl⟩ := map_item hx
              have hi := lt_of eti
              refine ⟨Nat.zero_le _, fun rw_ hrw => ?_⟩
              have nrb := bA.ne hrw
              have r8 : H8 rw_ = none := KA.free hrw nrb
              have nr0 : r0 ≠ rw_ := ne_of_none rA hrw
              have nbs : ∀ a ∈ bs, a ≠ rw_ := fun a ha => by
                obtain ⟨_, _, row, z, _⟩ := hA a ha
                exact ne_of_none z hrw
              refine ⟨_, rfl, l', rfl, ⟨_, SqL.of ((tabs _ (KA.updN r8)).1.rl.1)⟩, for_list (K := K) (a := l') (xs := ts'.map V.ref) (fun j σ H' => (∃ x5 x13, σ = [some (.ref b), x1, some (.int (d : Nat)), some (.ref ti), some (.ref r0), x5, none, none, some (.ref rw_), some (.int ((2 + s0 : Nat) : Int)), some (.ref l'), x11, some (.ref e0), x13, none]) ∧ Keep b H8 H' ∧ Bx H' b ∧
                  H' r0 = some (.lst (bs.map V.ref)) ∧ (∀ a ∈ bs, ∀ o, HA a = some o → H' a = some o) ∧ ∃ row : List (Option Int), H' rw_ = some (.lst (row.map eV)) ∧ row.length = j ∧ ∀ c, some c ∈ row → -1 ≤ c ∧ c ≤ ((ts'.length : Nat) : Int) - 1)
                ⟨⟨_, _, rfl⟩, KA.updN r8, bA.upd nrb, by rw [upd_ne nr0]; exact rA, fun a ha o e => by rw [upd_ne (nbs a ha)]; exact e, [], upd_same, rfl, fun _ z => by cases z⟩
                (fun j σ H' _ z => SqL.of (tabs H' z.2.1).1.rl.1) (fun j x σ HB hx2 ⟨⟨x5, x13, eσ⟩, KB, bB, rB, sB, row, eB, lB, hB⟩ => ?_) fun σ HB ⟨⟨x5, x13, eσ⟩, KB, bB, rB, sB, row, eB, lB, hB⟩ => ?_⟩
              · subst eσ
                obtain ⟨tj, etj, rfl⟩ := map_item hx2
                have hj := lt_of etj
                obtain ⟨TB, EB⟩ := tabs HB KB
                obtain ⟨qi, eqi⟩ := get_of (l := qs') (n := ts'.length) hi lq
                obtain ⟨qj, eqj⟩ := get_of (l := qs') (n := ts'.length) hj lq
                have hti := TB.rl.2.2 i ti qi eti eqi
                have htj := TB.rl.2.2 j tj qj etj eqj
                have tbi := T8.tab qi (List.mem_of_getElem? eqi)
                have tbj := T8.tab qj (List.mem_of_getElem? eqj)
                refine ⟨_, rfl, ti, rfl, ⟨_, SqL.of hti⟩, fun d3 hd3 => lc_list (K := K) (a := ti) (xs := qi.map eV) (fun k H' => Same HB H' ∧ ∃ dn : List (Option Int), H' d3 = some (.lst (dn.map eV)) ∧ dn.length = k)
                  ⟨same_new hd3, [], upd_same, rfl⟩ (fun k H' _ z => SqL.of (z.1 _ _ hti)) (fun k x HC hx3 ⟨SC, dn, eC, lC⟩ => ?_) fun HC ⟨SC, dn, eC, lC⟩ => ?_⟩
                · obtain ⟨e, ee, rfl⟩ := map_item hx3
                  have hk := lt_of ee
                  rw [tbi.1] at hk
                  obtain ⟨c, rfl, hc⟩ := tbi.2 e (List.mem_of_getElem? ee)
                  obtain ⟨v, ev⟩ := get_of (l := qj) (n := 2 + s0) hc tbj.1
                  refine ⟨rfl, _, rfl, _, rfl, tj, _, _, _, rfl, rfl, SqL.of (SC _ _ htj), atI_nat (at_at ev), _, eC, by rw [List.length_map, lC]; exact small1000 (by omega), same_upd SC hd3, dn ++ [v], by rw [upd_same, List.map_append]; rfl, by rw [List.length_append, lC]; rfl⟩
                · -- row.append(..)
                  have KC : Keep b H8 HC := KB.trans (Keep.of SC)
                  have step : ∀ (HD : Hp) (v : Option Int), Keep b HC HD → Bx HD b → (∀ c, v = some c → -1 ≤ c ∧ c ≤ ((ts'.length : Nat) : Int) - 1) → HD rw_ = some (.lst (row.map eV)) ∧ (row.map eV).length < sizeLine ∧
                      ((∃ x5 x13, [some (V.ref b), x1, some (.int (d : Nat)), some (.ref ti), some (.ref r0), some (.ref tj), none, none, some (.ref rw_), some (.int ((2 + s0 : Nat) : Int)), some (.ref l'), x11, some (.ref e0), some (.ref d3), none] =
                        [some (.ref b), x1, some (.int (d : Nat)), some (.ref ti), some (.ref r0), x5, none, none, some (.ref rw_), some (.int ((2 + s0 : Nat) : Int)), some (.ref l'), x11, some (.ref e0), x13, none]) ∧ Keep b H8 (upd HD rw_ (.lst (row.map eV ++ [eV v]))) ∧ Bx (upd HD rw_ (.lst (row.map eV ++ [eV v]))) b ∧
                      (upd HD rw_ (.lst (row.map eV ++ [eV v]))) r0 = some (.lst (bs.map V.ref)) ∧ (∀ a ∈ bs, ∀ o, HA a = some o → (upd HD rw_ (.lst (row.map eV ++ [eV v]))) a = some o) ∧
                      ∃ row' : List (Option Int), (upd HD rw_ (.lst (row.map eV ++ [eV v]))) rw_ = some (.lst (row'.map eV)) ∧ row'.length = j + 1 ∧ ∀ c, some c ∈ row' → -1 ≤ c ∧ c ≤ ((ts'.length : Nat) : Int) - 1) := fun HD v KD bD hv => by
                    refine ⟨KD _ _ nrb (SC _ _ eB), by rw [List.length_map, lB]; exact small1000 (by omega), ⟨_, _, rfl⟩, (KC.trans KD).updN r8, bD.upd nrb, ?_, fun a ha o e => ?_, row ++ [v], by rw [upd_same, List.map_append]; rfl, by rw [List.length_append, lB]; rfl, fun c hc => ?_⟩
                    · rw [upd_ne nr0]; exact KD _ _ r0b (SC _ _ rB)
                    · rw [upd_ne (nbs a ha)]
                      have nab : a ≠ b := b8.ne (hA a ha).1
                      exact KD _ _ nab (SC _ _ (sB a ha o e))
                    · rcases List.mem_append.mp hc with z | z
                      · exact hB c z
                      · exact hv c (List.mem_singleton.mp z).symm
                  have bC := bB.same SC
                  have EC := EB.same SC
                  have cast : ∀ v : Option Int, ∀ HD : Hp, Keep b HC HD → Bx HD b → (∀ c, v = some c → -1 ≤ c ∧ c ≤ ((ts'.length : Nat) : Int) - 1) → rAppend (.ref rw_) [eV v] HD (fun _ H' => (∃ x5 x13, [some (V.ref b), x1, some (.int (d : Nat)), some (.ref ti), some (.ref r0), some (.ref tj), none, none, some (.ref rw_), some (.int ((2 + s0 : Nat) : Int)), some (.ref l'), x11, some (.ref e0), some (.ref d3), none] =
                        [some (.ref b), x1, some (.int (d : Nat)), some (.ref ti), some (.ref r0), x5, none, none, some (.ref rw_), some (.int ((2 + s0 : Nat) : Int)), some (.ref l'), x11, some (.ref e0), x13, none]) ∧ Keep b H8 H' ∧ Bx H' b ∧
                      H' r0 = some (.lst (bs.map V.ref)) ∧ (∀ a ∈ bs, ∀ o, HA a = some o → H' a = some o) ∧
                      ∃ row' : List (Option Int), H' rw_ = some (.lst (row'.map eV)) ∧ row'.length = j + 1 ∧ ∀ c, some c ∈ row' → -1 ≤ c ∧ c ≤ ((ts'.length : Nat) : Int) - 1) := fun v HD KD bD hv => by
                    obtain ⟨z1, z2, z3⟩ := step HD v KD bD hv
                    exact ⟨rw_, _, _, rfl, rfl, z1, z2, z3⟩
                  clear step
                  refine ⟨_, rfl, .inl ⟨rfl, _, SqL.of (SC _ _ eB)⟩, ?_⟩
                  refine ⟨_, rfl, _, rfl, dR dn, (qs' ++ [idR (2 + s0)]).map dR, dp_lstE eC, dp_rows EC, sh_row _, sh_rows _, _, rfl, ?_⟩
                  cases hany : ((qs' ++ [idR (2 + s0)]).map dR).any fun z => PyData.eqv z (dR dn) with
                  | false => exact iteT (iteT (cast none HC (Keep.refl _ _) bC fun c z => by cases z))
                  | true =>
                    refine iteF ⟨_, rfl, b, 9, rfl, bC, by decide, by decide, fun e9 HD he9 KD bD => ⟨rfl, _, rfl, ?_⟩⟩
                    refine ite2 (fun _ => cast none HD KD bD fun c z => by cases z) (fun _ => ?_)
                    have ED := (tabs HD (KC.trans KD)).2
                    have nd3 : d3 ≠ b := bB.ne hd3
                    have eD := KD _ _ nd3 eC
                    have lastT : atI ((ts' ++ [q1]).map V.ref) (-1) = some (.ref q1) := by rw [List.map_append]; exact atI_last _ _
                    have hq1 : HD q1 = some (.lst ((idR (2 + s0)).map eV)) := ED.2.2 ts'.length q1 _ (by rw [List.getElem?_append_right (Nat.le_refl _), Nat.sub_self]; rfl) (by rw [List.getElem?_append_right (by omega), lq, Nat.sub_self]; rfl)
                    refine ⟨_, rfl, _, rfl, _, rfl, e0, _, _, _, rfl, rfl, SqL.of ED.1, lastT, dR dn, dR (idR (2 + s0)), dp_lstE eD, dp_lstE hq1, sh_row _, sh_row _, _, rfl, ?_⟩
                    rw [eqv_dR]
                    by_cases hlast : dn = idR (2 + s0)
                    · rw [decide_eq_true hlast]
                      refine iteF ⟨_, _, rfl, rfl, ?_⟩
                      refine cast (some (-1)) HD KD bD fun c z => ?_
                      cases z
                      omega
                    · rw [decide_eq_false hlast]
                      obtain ⟨jx, ej, fst⟩ := first_of hany
                      have hjx : jx < ts'.length := by
                        have h1 := lt_of ej
                        rw [List.length_append, lq] at h1
                        have h1 : jx < ts'.length + 1 := h1
                        by_cases z : jx < ts'.length
                        · exact z
                        · have : jx = ts'.length := by omega
                          rw [this, List.getElem?_append_right (by omega), lq, Nat.sub_self] at ej
                          cases ej
                          exact absurd rfl hlast
                      refine iteT ⟨_, rfl, .inl ⟨rfl, _, SqL.of ED.1⟩, _, rfl, e0, _, dR dn, (qs' ++ [idR (2 + s0)]).map dR, jx, dR dn, rfl, rfl, dp_rows ED, dp_lstE eD, sh_rows _, sh_row _, ?_, ?_, fun mm z' hm hz' => ?_, ?_⟩
                      · rw [List.getElem?_map, ej]; rfl
                      · rw [eqv_dR]; exact decide_eq_true rfl
                      · rw [List.getElem?_map] at hz'
                        cases hq : (qs' ++ [idR (2 + s0)])[mm]? with
                        | none => rw [hq] at hz'; cases hz'
                        | some qq =>
                          rw [hq] at hz'
                          cases hz'
                          rw [eqv_dR]
                          exact decide_eq_false (fst mm qq hm hq)
                      · refine cast (some ((jx : Nat) : Int)) HD KD bD fun c z => ?_
                        cases z
                        omega
              · subst eσ
                rw [List.length_map] at lB
                refine ⟨_, rfl, .inl ⟨rfl, _, SqL.of rB⟩, _, rfl, r0, _, _, rfl, rfl, rB, by rw [List.length_map, lA]; exact small1000 (by omega), ?_⟩
                refine ⟨⟨_, _, _, _, rfl⟩, KB.updN hr0, bB.upd r0b, bs ++ [rw_], by rw [upd_same, List.map_append]; rfl, by rw [List.length_append, lA]; rfl, fun a ha => ?_⟩
                rcases List.mem_append.mp ha with z | z
                · obtain ⟨z1, z2, row2, z3, z4⟩ := hA a z
                  exact ⟨z1, z2, row2, by rw [upd_ne z2]; exact sB a z _ z3, z4⟩
                · have ez := List.mem_singleton.mp z
                  subst ez
                  exact ⟨r8, nr0.symm, row, by rw [upd_ne nr0.symm]; exact eB, lB, hB⟩
            · subst eσ
              rw [List.length_map] at lA
              refine ⟨_, rfl, fin ts'.length HA r0 bs n1 (by omega) (K8.trans KA) bA ⟨rA, lA, fun a ha => (hA a ha).2.2, K8.free hr0 r0b, fun a ha => ?_⟩⟩
              have := (hA a ha).1
              exact K8.free this (b8.ne this)
end
end K7
end

section
-- K7LawB
set_option Elab.async false
set_option linter.all false
set_option maxRecDepth 100000
set_option maxHeartbeats 4000000
/-! the law's merger; the long queue. -/
namespace K7
open PySem PySem.Spec PyProof.Rows L2
theorem keep_upd' {b p : Addr} {H : Hp} {o : HO} (h : H p = none) : Keep b H (upd H p o) := Keep.of (same_new h)
def spLMerger : Sp := fun vs H Q _ => ∃ (b : Addr), vs = [.ref b] ∧ Bx H b ∧ ∀ H' r as rows n, Keep b H H' → Bx H' b → RL H' r as rows → Sq rows n → Sound rows n → H r = none → (∀ a ∈ as, H a = none) → Q (.ref r) H'
section
variable {w : World} {K : PySem.W.Frag} {mg : Str → Option Value} {base : Heap} {C CQ CW CR : Addr}
abbrev scLMN : List Str := ["_law_box_here", "_law_turn", "_law_rows_here"]
theorem scLM : FnScope scLMN ["_law_box_here"] (defScope sLMerger) := ⟨rfl, rfl, rfl, by decide +kernel, rfl, by decide +kernel, by decide +kernel⟩
theorem ok_lmerger (D : DefAt K mg "_law_merger" sLMerger) (T : Txt K mg C) (G__law_rows : Keeps w K mg base CX0 "_law_rows" 2 ["_law_box_here", "_law_turn"] spLRows) (G__law_is_sound : Keeps w K mg base CX0 "_law_is_sound" 2 ["_law_rows_here"] spLIsSound) : Keeps w K mg base CX0 "_law_merger" 3 ["_law_box_here"] spLMerger := by
  refine keeps0 D scLM (fun vs H Q E h => ?_) (fun _ _ _ _ _ _ us hl => match us, hl with | [_], _ => rfl) fun f cdv A outer s H vs Q E hr h => ?_
  · obtain ⟨b, rfl, _⟩ := h
    rfl
  · obtain ⟨b, rfl, hb, k⟩ := h
    refine ⟨_, (pss_cons (ps_for PassesOwn.never rfl (pi_range1 (by rfl) T.range (pa_cons pe_int pa_nil)) (pg_name (i := 1) scLM.nd rfl (Or.inl rfl)) (pss_cons (ps_set (i := 2) scLM.nd rfl (Or.inl rfl) (pe_k G__law_rows rfl (hr.mono (by decide)) (by rfl) pass0 (pa_cons (pv 0) (pa_cons (pv 1) pa_nil))))
      (pss_one (ps_if (pt_val (pe_k G__law_is_sound rfl (hr.mono (by decide)) (by rfl) pass0 (pa_cons (pv 2) pa_nil))) (pss_one (ps_ret (pv 2))) pss_nil))))
      (pss_one (ps_ret (pe_lst (pa_cons (pe_lst (pa_cons pe_non pa_nil)) pa_nil))))), ?_⟩
    refine ⟨30, rfl, by decide, by decide, for_range (lo := 0) (n := 30) (fun i σ H' => (∃ x1 x2, σ = [some (.ref b), x1, x2]) ∧ Keep b H H' ∧ Bx H' b) ⟨⟨_, _, rfl⟩, Keep.refl _ _, hb⟩ (fun i σ H1 hi ⟨⟨x1, x2, e⟩, K1, b1⟩ => ?_) fun σ H1 ⟨⟨x1, x2, e⟩, K1, b1⟩ => ?_⟩
    · subst e
      refine ⟨_, rfl, _, rfl, b, i, by rw [Int.zero_add]; rfl, b1, fun H2 r as rows n K2 b2 hL sq nr nas => ?_⟩
      refine ⟨_, rfl, r, as, rows, n, rfl, hL, sq, fun so hso => ⟨_, rfl, ?_⟩⟩
      cases so with
      | true => exact iteT ⟨_, rfl, k H2 r as rows n (K1.trans K2) b2 hL sq (hso rfl) (K1.free nr (b1.ne nr)) fun a ha => K1.free (nas a ha) (b1.ne (nas a ha))⟩
      | false => exact iteF ⟨⟨_, _, rfl⟩, K1.trans K2, b2⟩
    · subst e
      refine ⟨by show 1 ≤ sizeLine; decide, fun p hp => ⟨by show 1 ≤ sizeLine; decide, fun r hr => ?_⟩⟩
      have S2 : Same H1 (upd H1 p (.lst [V.non])) := same_new hp
      have hrH := S2.free hr
      refine k _ r [p] [[none]] 1 (K1.trans (Keep.of (S2.new hr))) (b1.same (S2.new hr)) ⟨upd_same, rfl, fun i a row e1 e2 => ?_⟩ ⟨Nat.le_refl _, by decide, rfl, fun r h => ?_, fun r h c hc => ?_⟩ ?_ (K1.free hrH (b1.ne hrH)) (fun a ha => ?_)
      · cases i with
        | zero => cases e1; cases e2; exact same_new hr _ _ upd_same
        | succ i => cases e1
      · rw [List.mem_singleton.mp h]; rfl
      · rw [List.mem_singleton.mp h] at hc
        cases List.mem_singleton.mp hc
      · intro a c d ha hc hd x y e1 _
        have : a = 0 := by have := ha.1; have := ha.2; omega
        have : c = 0 := by have := hc.1; have := hc.2; omega
        subst a c
        cases e1
      · rw [List.mem_singleton.mp ha]; exact K1.free hp (b1.ne hp)
def spLLong (C : Addr) : Sp := fun vs H Q _ => ∃ (b m r : Addr) (as : List Addr) (rows : Rw) (n : Nat), vs = [.ref b, .ref m, .ref r] ∧ Bx H b ∧ Mg C H m n rows ∧ RL H r as rows ∧ Sq rows n ∧ r ≠ b ∧ (∀ a ∈ as, a ≠ b) ∧ ∀ H', Q (.bl true) H'
abbrev scLLN : List Str := ["_law_box_here", "_law_merger_here", "_law_rows_here", "_law_turn", "_law_some", "_law_queue_here", "_law_pile_here", "_law_command", "_law_here", "_law_handed"]
theorem scLL : FnScope scLLN ["_law_box_here", "_law_merger_here", "_law_rows_here"] (defScope sLLongRight) := ⟨rfl, rfl, rfl, by decide +kernel, rfl, by decide +kernel, by decide +kernel⟩
theorem ok_llong (D : DefAt K mg "_law_long_right" sLLongRight) (T : Txt K mg C) (G__law_take : Keeps w K mg base CX0 "_law_take" 1 ["_law_box_here", "_law_many"] spLTake) (GR_plain_fold : KeepsR w K mg base (L2.CX Pg w) "plain_fold" 5 ["merger", "queue"] (spPlainFold C CQ)) :
    Keeps w K mg base CX0 "_law_long_right" 6 ["_law_box_here", "_law_merger_here", "_law_rows_here"] (spLLong C) := by
  refine keeps0 D scLL (fun vs H Q E h => ?_) (fun _ _ _ _ _ _ us hl => match us, hl with | [_, _, _], _ => rfl) fun f cdv A outer s H vs Q E hr h => ?_
  · obtain ⟨b, m, r, as, rows, n, rfl, _⟩ := h
    rfl
  · obtain ⟨b, m, r, as, rows, n, rfl, hb, hM, hL, sq, nrb, nab, k⟩ := h
    refine ⟨_, (pss_cons (ps_par3 (i := 4) (j := 5) (l := 6) rfl scLL.nd rfl rfl rfl (by decide) (by decide) (by decide) rfl rfl rfl (pa_cons (pe_lc (own := [("_law_turn", 3)]) (g := gName 3) rfl scLL.nd (pi_range1 (by rfl) T.range (pa_cons pe_int pa_nil)) (blkOk_by (own := [("_law_turn", 3)]) (N := scLLN) (sc := defScope sLLongRight) (by decide +kernel)) (fun _ _ _ _ _ => (pg_name (i := 3) scLL.nd rfl (Or.inl rfl))) (fun _ _ _ _ _ => pts_nil) (fun _ _ _ _ _ => (pe_k G__law_take rfl (hr.mono (by decide)) (by rfl) pass0 (pa_cons (pv 0) (pa_cons (pe_callB (c_len K) (by rfl) T.len PySem.boot_len (pa_cons (pv 2) pa_nil)) pa_nil))))) (pa_cons (pe_lst pa_nil) (pa_cons (pe_lst pa_nil) pa_nil))) (by rfl))
      (pss_cons (ps_for PassesOwn.never rfl (pi_range1 (by rfl) T.range (pa_cons pe_int pa_nil)) (pg_name (i := 3) scLL.nd rfl (Or.inl rfl)) (pss_one (ps_expr (pe_bm PySem.F.plainAttrs_list PySem.F.slot_list_append PySem.F.type_list_append mt_append (pv 5) (pa_cons (pe_ix (x_list K) (pv 4) (pe_op op_modN (pe_callTy call_int1 (by rfl) T.int boot_int (pa_cons (pe_op op_mul (pv 3) (pv 3)) pa_nil)) pe_int) (fun _ _ => rfl)) pa_nil)))))
      (pss_cons (ps_for PassesOwn.never rfl (p_list K (pv 5)) (pg_name (i := 7) scLL.nd rfl (Or.inl rfl)) (pss_cons (ps_set (i := 8) scLL.nd rfl (Or.inl rfl) (pv 7))
      (pss_cons (ps_while PassesOwn.never (PW.pt (pw_and (pt_cmpR (op_neD hr.units) (pv 6) (pe_lst pa_nil) (nomark _)) (pw_and (pt_cmpR op_ne (pv 8) (pe_op op_sub pe_int pe_int) (nomark _)) (pw_and1 (pt_cmpR op_notN (pe_ix (x_list K) (pe_ix (x_list K) (pv 2) (pe_ix (x_list K) (pv 6) (pe_un un_neg pe_int) (fun _ _ => rfl)) (fun _ _ => rfl)) (pv 8) (fun _ _ => rfl)) pe_non (nomark _)))))) (pss_one (ps_set (i := 8) scLL.nd rfl (Or.inl rfl) (pe_ix (x_list K) (pe_ix (x_list K) (pv 2) (pe_bm0 PySem.F.plainAttrs_list PySem.F.slot_list_pop PySem.F.type_list_pop mt_pop (pv 6)) (fun _ _ => rfl)) (pv 8) (fun _ _ => rfl)))))
      (pss_one (ps_if (pt_cmpR op_ne (pv 8) (pe_op op_sub pe_int pe_int) (nomark _)) (pss_one (ps_expr (pe_bm PySem.F.plainAttrs_list PySem.F.slot_list_append PySem.F.type_list_append mt_append (pv 6) (pa_cons (pv 8) pa_nil)))) pss_nil)))))
      (pss_cons (ps_set (i := 9) scLL.nd rfl (Or.inl rfl) (pe_callTy (c_list K) (by rfl) T.list boot_list (pa_cons (pv 5) pa_nil)))
      (pss_one (ps_ret (pe_and (pe_cmpR (op_eqD hr.units) (pe_k GR_plain_fold.keeps rfl (hr.mono (by decide)) (by rfl) passL (pa_cons (pv 1) (pa_cons (pv 9) pa_nil))) (pe_callTy (c_tuple K) (by rfl) T.tuple boot_tuple (pa_cons (pv 6) pa_nil)) (nomark _)) (pe_one (pe_cmpR (op_eqD hr.units) (pv 9) (pv 5) (nomark _)))))))))), ?_⟩
    have n1 := sq.pos
    have n12 := sq.most
    have len := lenR sq hL.2.1
    obtain ⟨_, _, ebx⟩ := hb.get
    refine ⟨7, rfl, by decide, by decide, fun dd hdd => ?_⟩
    have ndd := hb.ne hdd
    refine lc_range (lo := 0) (n := 7) (fun i H' => Keep b H H' ∧ Bx H' b ∧ ∃ c7, H' dd = some (.lst (iV c7)) ∧ c7.length = i ∧ Que n c7) ⟨keep_upd' hdd, hb.upd ndd, [], upd_same, rfl, fun _ z => by cases z⟩
      (fun i H2 hi ⟨K2, b2, c7, e2, l2, q2⟩ => ?_) fun H2 ⟨K2, b2, c7, e2, l2, q2⟩ => ?_
    · have hL2 := hL.keep K2 nrb nab
      refine ⟨rfl, _, rfl, _, rfl, r, _, rfl, .inl (SqL.of hL2.1), ?_⟩
      rw [len]
      refine ⟨b, n, rfl, b2, n1, by omega, fun c H3 hc K3 b3 => ?_⟩
      refine ⟨_, K3 _ _ ndd e2, by rw [iV_len]; exact small1000 (by omega), (K2.trans K3).updN hdd, b3.upd ndd, c7 ++ [((c : Nat) : Int)], by rw [upd_same, iV_app]; rfl, by rw [List.length_append, l2]; rfl, fun x hx => ?_⟩
      rcases List.mem_append.mp hx with h | h
      · exact q2 x h
      · rw [List.mem_singleton.mp h]; exact ⟨by omega, by omega⟩
    · refine ⟨Nat.zero_le _, fun ql hql => ⟨Nat.zero_le _, fun pl hpl => ⟨_, _, _, rfl, ?_⟩⟩⟩
      have S3 : Same H2 (upd (upd H2 ql (.lst [])) pl (.lst [])) := (same_new hql).new hpl
      have nqp : ql ≠ pl := ne_of_none upd_same hpl
      have Q3 : (upd (upd H2 ql (.lst [])) pl (.lst [])) ql = some (.lst (iV [])) := by rw [upd_ne nqp, upd_same]; rfl
      have P3 : (upd (upd H2 ql (.lst [])) pl (.lst [])) pl = some (.lst (iV ([] : List Int).reverse)) := upd_same
      have D3 := S3 _ _ e2
      have hM3 : Mg C (upd (upd H2 ql (.lst [])) pl (.lst [])) m n rows := (hM.keep K2 ebx).same S3
      have hL3 := (hL.keep K2 nrb nab).same S3
      have ndq : dd ≠ ql := ne_of_none e2 hql
      have hpl2 : H2 pl = none := (same_new hql).free hpl
      have ndp : dd ≠ pl := ne_of_none e2 hpl2
      dsimp only
      show tSeq _ _ _ _ (upd (upd H2 ql (.lst [])) pl (.lst []))
      generalize hH3 : upd (upd H2 ql (.lst [])) pl (.lst []) = H3 at Q3 P3 D3 hM3 hL3
      -- what stays: all but the queue and the pile
      have stay : ∀ H', (∀ a o, a ≠ ql → a ≠ pl → H3 a = some o → H' a = some o) → Mg C H' m n rows ∧ RL H' r as rows ∧ H' dd = some (.lst (iV c7)) := fun H' s => by
        have hq : H2 ql = none := hql
        have mg' : Mg C H2 m n rows := hM.keep K2 ebx
        have rl' := hL.keep K2 nrb nab
        have up : ∀ a o, H2 a = some o → H' a = some o := fun a o e => s a o (ne_of_none e hq) (ne_of_none e hpl2) (by rw [← hH3]; exact S3 a o e)
        exact ⟨mg'.same up, rl'.same up, up _ _ e2⟩
      clear hH3
      refine ⟨10000, rfl, by decide, by decide, for_range (lo := 0) (n := 10000) (fun i σ H' => (∃ x3, σ = [some (.ref b), some (.ref m), some (.ref r), x3, some (.ref dd), some (.ref ql), some (.ref pl), none, none, none]) ∧ (∀ a o, a ≠ ql → a ≠ pl → H3 a = some o → H' a = some o) ∧ H' pl = some (.lst (iV ([] : List Int).reverse)) ∧ ∃ q, H' ql = some (.lst (iV q)) ∧ q.length = i ∧ Que n q)
        ⟨⟨_, rfl⟩, fun a o _ _ e => e, P3, [], Q3, rfl, fun _ z => by cases z⟩ (fun i σ H4 hi ⟨⟨x3, eσ⟩, y1, y2, q, y3, y4, y5⟩ => ?_) fun σ H4 ⟨⟨x3, eσ⟩, y1, y2, q, y3, y4, y5⟩ => ?_⟩
      · subst eσ
        obtain ⟨_, _, d4⟩ := stay H4 y1
        obtain ⟨c, ec, hc⟩ := nat_of (fmod_pos (a := (0 + (i : Int)) * (0 + (i : Int))) (b := ((7 : Nat) : Int)) (by decide))
        obtain ⟨v, ev⟩ := get_of (l := c7) (n := 7) hc l2
        refine ⟨_, rfl, .inl ⟨rfl, _, SqL.of y3⟩, _, rfl, _, rfl, _, rfl, _, _, rfl, rfl, .inl ⟨by omega, by omega⟩, .inl ⟨_, rfl, _, _, rfl, rfl, (by decide : (7 : Int) ≠ 0), ?_⟩⟩
        refine ⟨dd, _, _, _, rfl, rfl, SqL.of d4, (congrArg (atI (iV c7)) ec).trans (atI_nat (at_at ev)), ql, _, _, rfl, rfl, y3, by rw [iV_len]; show _ < 16777216; omega, ?_⟩
        refine ⟨⟨_, rfl⟩, fun a o h1 h2 e => by rw [upd_ne h1]; exact y1 a o h1 h2 e, by rw [upd_ne nqp.symm]; exact y2, q ++ [v], by rw [upd_same, iV_app]; rfl, by rw [List.length_append, y4]; rfl, fun x hx => ?_⟩
        rcases List.mem_append.mp hx with h | h
        · exact y5 x h
        · rw [List.mem_singleton.mp h]; exact q2.get ev
      · subst eσ
        obtain ⟨hM4, hL4, _⟩ := stay H4 y1
        have stay2 : ∀ H', (∀ a o, a ≠ pl → H4 a = some o → H' a = some o) → Mg C H' m n rows ∧ RL H' r as rows := fun H' s => by
          obtain ⟨z1, z2, _⟩ := stay H' fun a o h1 h2 e => s a o h2 (y1 a o h1 h2 e)
          exact ⟨z1, z2⟩
        refine ⟨_, rfl, ql, rfl, ⟨_, SqL.of y3⟩, for_list (K := K) (a := ql) (xs := iV q) (fun i σ H' => (∃ x7 x8, σ = [some (.ref b), some (.ref m), some (.ref r), x3, some (.ref dd), some (.ref ql), some (.ref pl), x7, x8, none]) ∧ (∀ a o, a ≠ pl → H4 a = some o → H' a = some o) ∧ H' pl = some (.lst (iV (steps rows (q.take i) ([], [])).1.reverse)))
          ⟨⟨_, _, rfl⟩, fun a o _ e => e, by rw [List.take_zero]; exact y2⟩ (fun i σ H' _ z => SqL.of (z.2.1 _ _ nqp y3)) (fun i x σ H5 hx ⟨⟨x7, x8, eσ⟩, z1, z2⟩ => ?_) fun σ H5 ⟨⟨x7, x8, eσ⟩, z1, z2⟩ => ?_⟩
        · subst eσ
          obtain ⟨c, hc, rfl⟩ := map_item hx
          have cc := y5.get hc
          have qs : Que n (steps rows (q.take i) ([], [])).1 := steps_que sq (fun d hd => y5 d (List.mem_of_mem_take hd)) (fun d hd => by cases hd)
          have hlen : (steps rows (q.take i) ([], [])).1.length ≤ q.length := by
            have h1 := steps_len (rows := rows) (q := q.take i) (s := ([], []))
            have h2 : (q.take i).length ≤ q.length := by rw [List.length_take]; omega
            have h3 : (([], []) : List Int × List Nat).1.length = 0 := rfl
            omega
          have st := steps_take (rows := rows) hc
          generalize steps rows (q.take i) ([], []) = s0 at *
          refine ⟨_, rfl, ?_⟩
          refine ⟨fun μ σ H' => ∃ (p1 : List Int) (h1 : Int), σ = [some (.ref b), some (.ref m), some (.ref r), x3, some (.ref dd), some (.ref ql), some (.ref pl), some (.int c), some (.int h1), none] ∧ μ = p1.length ∧ (∀ a o, a ≠ pl → H4 a = some o → H' a = some o) ∧ H' pl = some (.lst (iV p1.reverse)) ∧
            p1.length ≤ s0.1.length ∧ Que n p1 ∧ (h1 = -1 ∨ Com n h1) ∧ put rows s0.1 c = lay (press rows p1 h1), ⟨s0.1.length, s0.1, c, rfl, rfl, z1, z2, Nat.le_refl _, qs, .inr cc, rfl⟩, ?_⟩
          rintro μ σ H6 ⟨p1, h1, rfl, rfl, w1, w2, w3, w4, w5, w6⟩
          refine ⟨_, rfl, Nat.zero_le _, fun p0 hp0 => ne_nil (same_new hp0 _ _ w2) upd_same ⟨_, rfl, ?_⟩⟩
          have np0 : pl ≠ p0 := ne_of_none w2 hp0
          have w1' : ∀ a o, a ≠ pl → H4 a = some o → (upd H6 p0 (.lst [])) a = some o := fun a o h e => same_new hp0 _ _ (w1 a o h e)
          have w2' : (upd H6 p0 (.lst [])) pl = some (.lst (iV p1.reverse)) := same_new hp0 _ _ w2
          generalize upd H6 p0 (.lst []) = H7 at w1' w2'
          -- leaving the loop
          have out : press rows p1 h1 = (p1, h1, 0) → (h1 = -1 → (∃ x7 x8, [some (V.ref b), some (.ref m), some (.ref r), x3, some (.ref dd), some (.ref ql), some (.ref pl), some (.int c), some (.int h1), none] = [some (.ref b), some (.ref m), some (.ref r), x3, some (.ref dd), some (.ref ql), some (.ref pl), x7, x8, none]) ∧ (∀ a o, a ≠ pl → H4 a = some o → H7 a = some o) ∧ H7 pl = some (.lst (iV (steps rows (q.take (i + 1)) ([], [])).1.reverse))) ∧
              (h1 ≠ -1 → (∃ x7 x8, [some (V.ref b), some (.ref m), some (.ref r), x3, some (.ref dd), some (.ref ql), some (.ref pl), some (.int c), some (.int h1), none] = [some (.ref b), some (.ref m), some (.ref r), x3, some (.ref dd), some (.ref ql), some (.ref pl), x7, x8, none]) ∧ (∀ a o, a ≠ pl → H4 a = some o → (upd H7 pl (.lst (iV p1.reverse ++ [V.int h1]))) a = some o) ∧ (upd H7 pl (.lst (iV p1.reverse ++ [V.int h1]))) pl = some (.lst (iV (steps rows (q.take (i + 1)) ([], [])).1.reverse))) := by
            intro ep
            rw [ep] at w6
            refine ⟨fun hg => ⟨⟨_, _, rfl⟩, w1', ?_⟩, fun hg => ⟨⟨_, _, rfl⟩, fun a o h e => by rw [upd_ne h]; exact w1' a o h e, ?_⟩⟩
            · rw [w2', st, w6]
              show _ = some (HO.lst (iV (lay (p1, h1, 0)).reverse))
              unfold lay
              rw [if_pos hg]
            · rw [upd_same, st, w6]
              show _ = some (HO.lst (iV (lay (p1, h1, 0)).reverse))
              unfold lay
              rw [if_neg hg, rev_cons]
          have lpl : (iV p1.reverse).length < 16777216 := by rw [iV_len, List.length_reverse]; omega
          cases p1 with
          | nil =>
            refine iteF (iteF ?_)
            refine ⟨_, rfl, _, _, rfl, rfl, rfl, _, rfl, ?_⟩
            show if (!decide (V.int h1 = V.int (0 - 1))) = true then _ else _
            rw [show (!decide (V.int h1 = V.int (0 - 1))) = !decide (h1 = -1) by simp]
            by_cases hg : h1 = -1
            · rw [decide_eq_true hg]
              exact iteF ((out rfl).1 hg)
            · rw [decide_eq_false hg]
              exact iteT ⟨_, rfl, .inl ⟨rfl, _, SqL.of w2'⟩, _, rfl, pl, _, _, rfl, rfl, w2', lpl, (out rfl).2 hg⟩
          | cons t' p2 =>
            rw [show (!((t' :: p2).reverse).isEmpty) = true by simp]
            refine iteT ⟨_, rfl, _, _, rfl, rfl, rfl, _, rfl, ?_⟩
            show if (!decide (V.int h1 = V.int (0 - 1))) = true then _ else _
            rw [show (!decide (V.int h1 = V.int (0 - 1))) = !decide (h1 = -1) by simp]
            by_cases hg1 : h1 = -1
            · rw [decide_eq_true hg1]
              refine iteF (iteF ?_)
              have ep : press rows (t' :: p2) h1 = (t' :: p2, h1, 0) := by rw [hg1]; exact press_gone ..
              refine ⟨_, rfl, _, _, rfl, rfl, rfl, _, rfl, ?_⟩
              show if (!decide (V.int h1 = V.int (0 - 1))) = true then _ else _
              rw [show (!decide (V.int h1 = V.int (0 - 1))) = !decide (h1 = -1) by simp]
              by_cases hg : h1 = -1
              · rw [decide_eq_true hg]
                exact iteF ((out ep).1 hg)
              · rw [decide_eq_false hg]
                exact iteT ⟨_, rfl, .inl ⟨rfl, _, SqL.of w2'⟩, _, rfl, pl, _, _, rfl, rfl, w2', lpl, (out ep).2 hg⟩
            · rw [decide_eq_false hg1]
              have hc1 := w5.resolve_left hg1
              have htc : Com n t' := w4 t' (List.mem_cons_self ..)
              obtain ⟨hM7, hL7⟩ := stay2 H7 w1'
              obtain ⟨pa, wa, f1, f2, f3, _⟩ := hL7.get sq htc hc1
              have e7 : H7 pl = some (.lst (iV p2.reverse ++ [V.int t'])) := by rw [w2', rev_cons]
              refine iteT ⟨_, rfl, _, rfl, _, rfl, pl, _, _, _, rfl, rfl, SqL.of e7, atI_last _ _, r, _, _, _, rfl, rfl, SqL.of hL7.1, f1, _, rfl, pa, _, _, _, rfl, rfl, SqL.of f2, f3, rfl, _, rfl, ?_⟩
              rw [eV_non]
              cases ee : rows.at t' h1 with
              | none =>
                refine iteF ?_
                have ep : press rows (t' :: p2) h1 = (t' :: p2, h1, 0) := press_none ee
                refine ⟨_, rfl, _, _, rfl, rfl, rfl, _, rfl, ?_⟩
                show if (!decide (V.int h1 = V.int (0 - 1))) = true then _ else _
                rw [show (!decide (V.int h1 = V.int (0 - 1))) = !decide (h1 = -1) by simp]
                by_cases hg : h1 = -1
                · rw [decide_eq_true hg]
                  exact iteF ((out ep).1 hg)
                · rw [decide_eq_false hg]
                  exact iteT ⟨_, rfl, .inl ⟨rfl, _, SqL.of w2'⟩, _, rfl, pl, _, _, rfl, rfl, w2', lpl, (out ep).2 hg⟩
              | some e =>
                have w6' := w6
                rw [press_some hg1 ee] at w6'
                refine iteT ⟨fun σ' H' => ∃ m', m' < (t' :: p2).length ∧ ∃ (p1 : List Int) (h1 : Int), σ' = [some (.ref b), some (.ref m), some (.ref r), x3, some (.ref dd), some (.ref ql), some (.ref pl), some (.int c), some (.int h1), none] ∧ m' = p1.length ∧ (∀ a o, a ≠ pl → H4 a = some o → H' a = some o) ∧ H' pl = some (.lst (iV p1.reverse)) ∧
                  p1.length ≤ s0.1.length ∧ Que n p1 ∧ (h1 = -1 ∨ Com n h1) ∧ put rows s0.1 c = lay (press rows p1 h1), fun σ' H' z => z, ?_⟩
                have len1 : (iV p2.reverse ++ [V.int t']).length = p2.length + 1 := by rw [List.length_append, iV_len, List.length_reverse]; rfl
                have last1 : (iV p2.reverse ++ [V.int t'])[(iV p2.reverse ++ [V.int t']).length - 1]? = some (V.int t') := by
                  rw [len1, List.getElem?_append_right (by rw [iV_len, List.length_reverse]; omega), iV_len, List.length_reverse, show p2.length + 1 - 1 - p2.length = 0 by omega]
                  rfl
                have dl1 : (iV p2.reverse ++ [V.int t']).dropLast = iV p2.reverse := by
                  rw [List.dropLast_append_of_ne_nil (by simp)]; exact List.append_nil _
                refine ⟨_, rfl, _, rfl, .inl ⟨rfl, _, SqL.of e7⟩, pl, _, _, rfl, rfl, e7, last1, ?_⟩
                rw [dl1]
                have w8 : ∀ a o, a ≠ pl → H4 a = some o → (upd H7 pl (.lst (iV p2.reverse))) a = some o := fun a o h e => by rw [upd_ne h]; exact w1' a o h e
                have P8 : (upd H7 pl (.lst (iV p2.reverse))) pl = some (.lst (iV p2.reverse)) := upd_same
                generalize upd H7 pl (.lst (iV p2.reverse)) = H8 at w8 P8
                obtain ⟨_, hL8⟩ := stay2 H8 w8
                obtain ⟨pb, wb, g1, g2, g3, _⟩ := hL8.get sq htc hc1
                rw [ee] at g3
                refine ⟨r, _, _, _, rfl, rfl, SqL.of hL8.1, g1, _, rfl, pb, _, _, _, rfl, rfl, SqL.of g2, g3, ?_⟩
                have w3' : p2.length + 1 ≤ s0.1.length := w3
                refine ⟨p2.length, by show _ < p2.length + 1; omega, p2, e, rfl, rfl, w8, P8, by omega, fun x hx => w4 x (List.mem_cons_of_mem _ hx), ?_, ?_⟩
                · by_cases z : e = -1
                  · exact .inl z
                  · exact .inr (sq.com htc hc1 ee z)
                · rw [w6']; rfl
        · subst eσ
          have et : q.take (iV q).length = q := by rw [iV_len, List.take_length]
          rw [et] at z2
          have q5 := z1 _ _ nqp y3
          refine ⟨_, rfl, ql, _, rfl, .inl (SqL.of q5), fun hl hhl => ?_⟩
          have S6 := same_new (o := .lst (iV q)) hhl
          have L6 : (upd H5 hl (.lst (iV q))) hl = some (.lst (iV q)) := upd_same
          have q6 := S6 _ _ q5
          have p6 := S6 _ _ z2
          obtain ⟨hM6, _⟩ := stay2 _ fun a o h e => S6 _ _ (z1 a o h e)
          generalize upd H5 hl (.lst (iV q)) = H6 at L6 q6 p6 hM6
          refine ⟨_, rfl, _, rfl, m, n, rows, .ref hl, rfl, hM6, sq, .inl ⟨q, ⟨hl, rfl, .inl L6, y5, by omega⟩, fun H7 tt S7 ht => ?_⟩⟩
          refine ⟨_, rfl, pl, _, rfl, .inl ⟨SqL.of (S7 _ _ p6), fun tp htp => ?_⟩⟩
          refine eq_tup (q := plain rows q) (same_new htp _ _ ht) upd_same ⟨_, rfl, iteT ?_⟩
          have S8 := S7.new (o := .tup (iV (steps rows q ([], [])).1.reverse)) htp
          exact ⟨_, rfl, _, rfl, eq_lst (S8 _ _ L6) (S8 _ _ q6) (k _)⟩
end
end K7
end

section
-- K7LawC
set_option Elab.async false
set_option linter.all false
set_option maxRecDepth 100000
set_option maxHeartbeats 4000000
/-! the plain way is right. -/
namespace K7
open PySem PySem.Spec PyProof.Rows L2
/-! ### promises kept where nothing is guarded, by name -/
structure KeepsG (w : World) (K : PySem.W.Frag) (mg : Str → Option Value) (base : Heap) (CX : CXT) (x : Str) (k : Nat) (ps : List Str) (sp : Sp) : Prop where
  ex : ∃ (f : Addr) (fd : FuncData), mg x = some (.ref f) ∧ PySem.W.keepIn K (.ref f) = true ∧ Binds K fd ps [] ∧ FnG Pg w K mg base CX k f fd ps sp
theorem keepsG {w : World} {K : PySem.W.Frag} {mg : Str → Option Value} {base : Heap} {x : Str} {st : Stmt} {N ps : List Str} {k : Nat} {sp : Sp} (D : DefAt K mg x st) (S : FnScope N ps (defScope st)) (len : ∀ vs H Q E, sp vs H Q E → vs.length = ps.length)
    (hb : ∀ (kV doc pm : Value) (an : Option Addr) (cdv ct : Value) (us : List Value), us.length = ps.length → bindArgs (PySem.W.fnOf x x (defArgs st) (defBody st) (defScope st) .none kV doc pm an cdv ct) ⟨us, []⟩ = pure (ps.zip us))
    (hbody : ∀ (f : Addr) (fd : FuncData) (cdv : Value) (A : Around) (outer : List Env) (s : Shared) (H : Hp) (vs : List V) (Q : VK) (E : XK), mg x = some (.ref f) → FnP K x st f fd → fd.code = cdv → A.guards = some [] → Room k (A.deeper (envOfC x (defScope st) s.heap.objs.size f cdv)) → sp vs H Q E →
      ∃ t, PSs (cxOf CX0 Pg w K mg base N x (defScope st) f cdv A outer s H E).nox (defBody st) t ∧ t { nx := fun _ H' => Q .non H', rt := Q } (start N vs) H) : KeepsG w K mg base CX0 x (k + 1) ps sp := by
  obtain ⟨f, fd, hm, F⟩ := D
  refine ⟨f, fd, hm, F.kp, F.bindsN hb, okG F S len fun cdv A outer s H vs Q E hgd hr hc h => ?_⟩
  obtain ⟨t, h1, h2⟩ := hbody f fd cdv A outer s H vs Q E hm F hc hgd hr h
  exact ⟨t, h1.nox, h2⟩
theorem pe_kG {X : Cx} {CX : CXT} {k : Nat} {ps : List Str} {sp : Sp} {E : XK} {x : Str} {p pos : Pos} {e : Expr} {es : List Expr} {t : TA} (G : KeepsG X.w X.K X.mg X.base CX x k ps sp) (hP : X.prog = Pg) (hgd : X.A.guards = some []) (hr : Room k X.A) (hg : Gl X x) (hx : Passes CX X E) (ha : PA X (e :: es) t) (hdb : (x == ("__debug__" : Str)) = false := by decide)
    (he : starEach (e :: es) X.env = (false, eval e X.env) :: starEach es X.env := by rfl) (hpl : (backTo pos (starEach es X.env)).any (·.1) = false := by rfl) : PE X (.Call (.Name x p) (e :: es) [] pos) (tCall sp [] E t) := by
  obtain ⟨f, fd, hm, hk, hb, F⟩ := G.ex
  rw [← hP] at F
  exact pe_callG F hgd hr hg hm hk hb .nil hx ha hdb he hpl
/-! ### plain facts -/
theorem wayOk_lt {rows : Rw} : ∀ {q : List Int} {w : List Nat}, WayOk rows q w → ∀ i ∈ w, i < q.length
  | q, [], _, i, hi => by cases hi
  | q, j :: w, h, i, hi => by
    rcases List.mem_cons.mp hi with z | z
    · rw [z]; have := h.1.1; omega
    · have := wayOk_lt h.2 i z
      have := once_len h.1
      omega
theorem small_que {n : Nat} {q : List Int} (h : Que n q) (hn : n ≤ 12) (hl : q.length ≤ 1000) : Small q := ⟨hl, fun c hc => by
  have := h c hc
  have h1 := this.1
  have h2 := this.2
  omega⟩
theorem small_places {w : List Nat} (h : ∀ i ∈ w, i < 1000) (hl : w.length ≤ 1000) : Small (w.map fun i => ((i : Nat) : Int)) := ⟨by rw [List.length_map]; exact hl, fun c hc => by
  obtain ⟨i, hi, rfl⟩ := List.mem_map.mp hc
  have := h i hi
  omega⟩
theorem dp_tupN {K : PySem.W.Frag} {H : Hp} {a : Addr} {w : List Nat} (h : H a = some (.tup (nV w))) : Dp K H (.ref a) (.tuple (dI (w.map fun i => ((i : Nat) : Int)))) := dp_tup (by rw [← nV_iV]; exact h)
theorem dp_lstN {K : PySem.W.Frag} {H : Hp} {a : Addr} {w : List Nat} (h : H a = some (.lst (nV w))) : Dp K H (.ref a) (.list (dI (w.map fun i => ((i : Nat) : Int)))) := dp_lst (by rw [← nV_iV]; exact h)
theorem ne_tupN {K : PySem.W.Frag} {H : Hp} {a p : Addr} {w : List Nat} {Q : VK} (h : H a = some (.tup (nV w))) (g : H p = some (.tup (nV w))) (k : Q (.bl false) H) : rNeD K (.ref a) (.ref p) H Q := ne_tup (q := w.map fun i => ((i : Nat) : Int)) (by rw [← nV_iV]; exact h) (by rw [← nV_iV]; exact g) k
/-- repr of what can be shown -/
theorem r_repr {K : PySem.W.Frag} {H : Hp} {Q : VK} {v : V} {d : PyData} (h : Dp K H v d) (c : CanShow d) (k : Q (.str d.shown) H) : rRepr K [v] H Q := ⟨v, d, rfl, h, c.sh, c.nd, c.dp, c.sz, k⟩
theorem folded_plain {rows : Rw} {q : List Int} : Folded rows (plain rows q) := fun i a b h1 h2 => plain_folded h1 h2
theorem sh_pairLL (p q : List Int) : SeqAt.shaped (.tuple [.list (dI p), .list (dI q)]) = true := by
  unfold SeqAt.shaped
  have h1 : PyData.canLay0 (.tuple [.list (dI p), .list (dI q)]) = true := by
    show (PyData.canLayAll0 (dI p) && (PyData.canLayAll0 (dI q) && true)) = true
    rw [lay_dI, lay_dI]; rfl
  have h2 : PyData.depth (.tuple [.list (dI p), .list (dI q)]) = 2 := by
    show max (PyData.depthAll (dI p) + 1) (max (PyData.depthAll (dI q) + 1) 0) + 1 = 2
    rw [dep_dI, dep_dI]; rfl
  rw [h1, h2]; rfl
theorem eq_pairLL (p q : List Int) : PyData.eqv (.tuple [.list (dI p), .list (dI q)]) (.tuple [.list (dI p), .list (dI q)]) = true := SeqAt.eqv_refl _ (by
  show (PyData.canLayAll0 (dI p) && (PyData.canLayAll0 (dI q) && true)) = true
  rw [lay_dI, lay_dI]; rfl)
def spLPlain (C : Addr) : Sp := fun vs H Q _ => ∃ (m r t : Addr) (as : List Addr) (rows : Rw) (n : Nat) (q : List Int), vs = [.ref m, .ref r, .ref t] ∧ Mg C H m n rows ∧ RL H r as rows ∧ Sq rows n ∧ H t = some (.tup (iV q)) ∧ Que n q ∧ q.length ≤ 30 ∧ ∀ H', Same H H' → Q (.bl true) H'
section
variable {w : World} {K : PySem.W.Frag} {mg : Str → Option Value} {base : Heap} {C CQ CW CR : Addr}
abbrev scLPRN : List Str := ["_law_merger_here", "_law_rows_here", "_law_queue_here", "_law_told", "_law_way", "_law_handed", "_law_places", "_law_cut", "_law_head"]
theorem scLPR : FnScope scLPRN ["_law_merger_here", "_law_rows_here", "_law_queue_here"] (defScope sLPlainRight) := ⟨rfl, rfl, rfl, by decide +kernel, rfl, by decide +kernel, by decide +kernel⟩
theorem ok_lplain (D : DefAt K mg "_law_plain_right" sLPlainRight) (T : Txt K mg C) (GR_plain_fold : KeepsR w K mg base (L2.CX Pg w) "plain_fold" 5 ["merger", "queue"] (spPlainFold C CQ)) (GR_plain_way : KeepsR w K mg base (L2.CX Pg w) "plain_way" 5 ["merger", "queue"] (spPlainWay C CQ))
    (GR_way_end : KeepsR w K mg base (L2.CX Pg w) "way_end" 5 ["merger", "queue", "way"] (spWayEnd C CQ CW)) (G_is_folded : Keeps w K mg base CX0 "is_folded" 6 ["merger", "queue"] (spIsFolded C)) (G__law_pile : Keeps w K mg base CX0 "_law_pile" 1 ["_law_rows_here", "_law_queue_here"] spLPile) :
    KeepsG w K mg base CX0 "_law_plain_right" 7 ["_law_merger_here", "_law_rows_here", "_law_queue_here"] (spLPlain C) := by
  refine keepsG D scLPR (fun vs H Q E h => ?_) (fun _ _ _ _ _ _ us hl => match us, hl with | [_, _, _], _ => rfl) fun f fd cdv A outer s H vs Q E _ _ _ hgd hr h => ?_
  · obtain ⟨m, r, t, as, rows, n, q, rfl, _⟩ := h
    rfl
  · obtain ⟨m, r, t, as, rows, n, q, rfl, hM, hL, sq, ht, hq, hlen, k⟩ := h
    refine ⟨_, (pss_cons (ps_par (i := 3) (j := 4) rfl scLPR.nd rfl rfl (by decide) rfl rfl (pa_cons (pe_k GR_plain_fold.keeps rfl (hr.mono (by decide)) (by rfl) passL (pa_cons (pv 0) (pa_cons (pv 2) pa_nil))) (pa_cons (pe_kR GR_plain_way rfl (hr.mono (by decide)) (by rfl) passL (pk_cons (pv 2) (pk_cons (pv 0) pk_nil))) pa_nil)) (by rfl))
      (pss_cons (ps_if (pt_cmpR op_ne (pe_callB (call_repr (k := 0) hgd (hu_64 hr)) (by rfl) T.repr boot_repr (pa_cons (pe_tup (pa_cons (pv 3) (pa_cons (pv 4) pa_nil))) pa_nil)) (pe_callB (call_repr (k := 0) hgd (hu_64 hr)) (by rfl) T.repr boot_repr (pa_cons (pe_k G__law_pile rfl (hr.mono (by decide)) (by rfl) pass0 (pa_cons (pv 1) (pa_cons (pv 2) pa_nil))) pa_nil)) (nomark _)) (pss_one (ps_ret pe_bl)) pss_nil)
      (pss_cons (ps_if (PW.pt (pw_or (pt_cmpR (op_neD hr.units) (pe_kR GR_plain_fold rfl (hr.mono (by decide)) (by rfl) passL (pk_cons (pe_callTy (c_list K) (by rfl) T.list boot_list (pa_cons (pv 2) pa_nil)) (pk_cons (pv 0) pk_nil))) (pv 3) (nomark _)) (pw_or1 (pt_cmpR (op_neD hr.units) (pe_k GR_plain_way.keeps rfl (hr.mono (by decide)) (by rfl) passL (pa_cons (pv 0) (pa_cons (pe_callTy (c_list K) (by rfl) T.list boot_list (pa_cons (pv 2) pa_nil)) pa_nil))) (pv 4) (nomark _))))) (pss_one (ps_ret pe_bl)) pss_nil)
      (pss_cons (ps_if (PW.pt (pw_or (pt_cmpR (op_neD hr.units) (pe_k GR_way_end.keeps rfl (hr.mono (by decide)) (by rfl) passL (pa_cons (pv 0) (pa_cons (pv 2) (pa_cons (pv 4) pa_nil)))) (pv 3) (nomark _)) (pw_or1 (pt_cmpR op_notBl (pe_k G_is_folded rfl (hr.mono (by decide)) (by rfl) pass0 (pa_cons (pv 0) (pa_cons (pv 3) pa_nil))) pe_bl (nomark _))))) (pss_one (ps_ret pe_bl)) pss_nil)
      (pss_cons (ps_par (i := 5) (j := 6) rfl scLPR.nd rfl rfl (by decide) rfl rfl (pa_cons (pe_callTy (c_list K) (by rfl) T.list boot_list (pa_cons (pv 2) pa_nil)) (pa_cons (pe_callTy (c_list K) (by rfl) T.list boot_list (pa_cons (pv 4) pa_nil)) pa_nil)) (by rfl))
      (pss_cons (ps_if (PW.pt (pw_or (pt_cmpR (op_neD hr.units) (pe_k GR_way_end.keeps rfl (hr.mono (by decide)) (by rfl) passL (pa_cons (pv 0) (pa_cons (pv 5) (pa_cons (pv 6) pa_nil)))) (pv 3) (nomark _)) (pw_or1 (pt_cmpR (op_neD hr.units) (pe_tup (pa_cons (pv 5) (pa_cons (pv 6) pa_nil))) (pe_tup (pa_cons (pe_callTy (c_list K) (by rfl) T.list boot_list (pa_cons (pv 2) pa_nil)) (pa_cons (pe_callTy (c_list K) (by rfl) T.list boot_list (pa_cons (pv 4) pa_nil)) pa_nil))) (nomark _))))) (pss_one (ps_ret pe_bl)) pss_nil)
      (pss_cons (ps_for PassesOwn.never rfl (pi_range3 (by rfl) T.range (pa_cons pe_int (pa_cons (pe_callB (c_len K) (by rfl) T.len PySem.boot_len (pa_cons (pv 2) pa_nil)) (pa_cons pe_int pa_nil)))) (pg_name (i := 7) scLPR.nd rfl (Or.inl rfl)) (pss_cons (ps_set (i := 8) scLPR.nd rfl (Or.inl rfl) (pe_k GR_plain_fold.keeps rfl (hr.mono (by decide)) (by rfl) passL (pa_cons (pv 0) (pa_cons (pe_slice sl_tupA (pv 2) po_none (po_some (pv 7))) pa_nil))))
      (pss_one (ps_if (PW.pt (pw_or (pt_cmpR (op_neD hr.units) (pv 8) (pe_ix (x_tup K) (pe_k G__law_pile rfl (hr.mono (by decide)) (by rfl) pass0 (pa_cons (pv 1) (pa_cons (pe_slice sl_tupA (pv 2) po_none (po_some (pv 7))) pa_nil))) pe_int (fun _ _ => rfl)) (nomark _)) (pw_or1 (pt_cmpR (op_neD hr.units) (pe_k GR_plain_fold.keeps rfl (hr.mono (by decide)) (by rfl) passL (pa_cons (pv 0) (pa_cons (pe_op op_catA (pv 8) (pe_slice sl_tupA (pv 2) (po_some (pv 7)) po_none)) pa_nil))) (pv 3) (nomark _))))) (pss_one (ps_ret pe_bl)) pss_nil))))
      (pss_one (ps_ret pe_bl))))))))), ?_⟩
    have n12 := sq.most
    have good : ∀ {H' : Hp}, Same H H' → GoodQ H' n (.ref t) q := fun s => ⟨t, rfl, .inr (s _ _ ht), hq, by omega⟩
    obtain ⟨pw1, pw2⟩ := plain_way sq hq
    have pq := plain_que sq hq
    have plen := plain_len (rows := rows) (q := q)
    have wlen := places_len (rows := rows) (q := q)
    have smP : Small (plain rows q) := small_que pq n12 (by omega)
    have smW : Small ((places rows q).map fun i => ((i : Nat) : Int)) := small_places (fun i hi => by have := wayOk_lt pw1 i hi; omega) (by omega)
    -- told, way
    refine ⟨_, rfl, _, rfl, m, n, rows, _, rfl, hM, sq, .inl ⟨q, good (Same.refl H), fun H1 a S1 ha => ?_⟩⟩
    refine ⟨_, rfl, _, rfl, rfl, m, n, rows, _, rfl, hM.same S1, sq, .inl ⟨q, good S1, fun H2 b S2 hb => ⟨_, _, rfl, ?_⟩⟩⟩
    have ha := S2 _ _ ha
    have S2 := S1.trans S2
    clear S1
    -- repr((told, way)) != repr(pile)
    refine ⟨_, rfl, _, rfl, by show 2 ≤ sizeLine; decide, fun p1 hp1 => ?_⟩
    have s3 : Same H2 (upd H2 p1 (.tup [.ref a, .ref b])) := same_new hp1
    have P3 : (upd H2 p1 (.tup [.ref a, .ref b])) p1 = some (.tup [.ref a, .ref b]) := upd_same
    generalize upd H2 p1 (.tup [.ref a, .ref b]) = H3 at s3 P3
    have ha := s3 _ _ ha
    have hb := s3 _ _ hb
    have S3 := S2.trans s3
    refine ⟨_, .tuple [.tuple (dI (plain rows q)), .tuple (dI ((places rows q).map fun i => ((i : Nat) : Int)))], rfl, .tup (SqT.of P3) (.cons (dp_tup ha) (.cons (dp_tupN hb) .nil)), (show_pair smP smW).sh, (show_pair smP smW).nd, (show_pair smP smW).dp, (show_pair smP smW).sz, ?_⟩
    refine ⟨_, rfl, _, rfl, r, t, as, rows, n, q, rfl, hL.same S3, sq, S3 _ _ ht, hq, by omega, fun H4 p2 a2 b2 s4 hp2 ha2 hb2 => ?_⟩
    have ha := s4 _ _ ha
    have hb := s4 _ _ hb
    have S4 := S3.trans s4
    refine ⟨_, .tuple [.tuple (dI (plain rows q)), .tuple (dI ((places rows q).map fun i => ((i : Nat) : Int)))], rfl, .tup (SqT.of hp2) (.cons (dp_tup ha2) (.cons (dp_tupN hb2) .nil)), (show_pair smP smW).sh, (show_pair smP smW).nd, (show_pair smP smW).dp, (show_pair smP smW).sz, ?_⟩
    refine ⟨rfl, _, rfl, ?_⟩
    rw [decide_eq_true rfl]
    refine iteF ?_
    clear S2 S3 s3 s4 P3 hp2 ha2 hb2
    -- again, by a list
    refine ⟨_, rfl, t, _, rfl, .inr (SqT.of (S4 _ _ ht)), fun l hl => ?_⟩
    have s5 : Same H4 (upd H4 l (.lst (iV q))) := same_new hl
    have L5 : (upd H4 l (.lst (iV q))) l = some (.lst (iV q)) := upd_same
    generalize upd H4 l (.lst (iV q)) = H5 at s5 L5
    refine ⟨_, rfl, rfl, m, n, rows, .ref l, rfl, hM.same (S4.trans s5), sq, .inl ⟨q, ⟨l, rfl, .inl L5, hq, by omega⟩, fun H6 a3 s6 ha3 => ⟨_, rfl, ne_tup ha3 (s6 _ _ (s5 _ _ ha)) ⟨_, rfl, iteF ?_⟩⟩⟩⟩
    have s6 := s5.trans s6
    have ha := s6 _ _ ha
    have hb := s6 _ _ hb
    have S6 := S4.trans s6
    clear s5 L5 ha3 hl S4
    refine ⟨_, rfl, _, rfl, t, _, rfl, .inr (SqT.of (S6 _ _ ht)), fun l2 hl2 => ?_⟩
    have s7 : Same H6 (upd H6 l2 (.lst (iV q))) := same_new hl2
    have L7 : (upd H6 l2 (.lst (iV q))) l2 = some (.lst (iV q)) := upd_same
    generalize upd H6 l2 (.lst (iV q)) = H7 at s7 L7
    refine ⟨m, n, rows, .ref l2, rfl, hM.same (S6.trans s7), sq, .inl ⟨q, ⟨l2, rfl, .inl L7, hq, by omega⟩, fun H8 b3 s8 hb3 => ⟨_, rfl, ne_tupN hb3 (s8 _ _ (s7 _ _ hb)) ⟨_, rfl, iteF ?_⟩⟩⟩⟩
    have s8 := s7.trans s8
    have ha := s8 _ _ ha
    have hb := s8 _ _ hb
    have S8 := S6.trans s8
    clear s7 L7 hb3 hl2 S6
    -- the way's end
    have wayEq : wayEnd rows q (places rows q) = plain rows q := pw2
    refine ⟨_, rfl, _, rfl, _, rfl, m, n, rows, .ref t, .ref b, rfl, hM.same S8, sq, .inl ⟨q, good S8, .tup hb, .inr ⟨b, places rows q, [], rfl, .inr (by rw [List.append_nil]; exact hb), fun x hx => (by cases hx), pw1, fun _ H9 a4 s9 ha4 => ?_, fun x xs e => by cases e⟩⟩⟩
    rw [wayEq] at ha4
    refine ⟨_, rfl, ne_tup ha4 (s9 _ _ ha) ⟨_, rfl, iteF ?_⟩⟩
    have ha := s9 _ _ ha
    have hb := s9 _ _ hb
    have S9 := S8.trans s9
    clear s9 ha4 S8 s8 s6
    refine ⟨_, rfl, _, rfl, m, a, n, rows, plain rows q, rfl, hM.same S9, sq, ha, pq, by omega, folded_plain, fun HA sA => ⟨_, _, rfl, rfl, _, rfl, iteF ?_⟩⟩
    have ha := sA _ _ ha
    have hb := sA _ _ hb
    have SA := S9.trans sA
    clear sA S9
    -- handed, places
    refine ⟨_, rfl, t, _, rfl, .inr (SqT.of (SA _ _ ht)), fun h1 hh1 => ?_⟩
    have sB : Same HA (upd HA h1 (.lst (iV q))) := same_new hh1
    have LB : (upd HA h1 (.lst (iV q))) h1 = some (.lst (iV q)) := upd_same
    generalize upd HA h1 (.lst (iV q)) = HB at sB LB
    refine ⟨_, rfl, b, _, rfl, .inr (SqT.of (sB _ _ hb)), fun h2 hh2 => ⟨_, _, rfl, ?_⟩⟩
    have sC : Same HB (upd HB h2 (.lst (nV (places rows q)))) := same_new hh2
    have LC : (upd HB h2 (.lst (nV (places rows q)))) h2 = some (.lst (nV (places rows q))) := upd_same
    dsimp only
    show tSeq _ _ _ _ (upd HB h2 (.lst (nV (places rows q))))
    generalize upd HB h2 (.lst (nV (places rows q))) = HC at sC LC
    have LB := sC _ _ LB
    have ha := sC _ _ (sB _ _ ha)
    have hb := sC _ _ (sB _ _ hb)
    have SC := (SA.trans sB).trans sC
    clear sB sC SA hh1 hh2
    refine ⟨_, rfl, _, rfl, _, rfl, m, n, rows, .ref h1, .ref h2, rfl, hM.same SC, sq, .inl ⟨q, ⟨h1, rfl, .inl LB, hq, by omega⟩, .lst LC, .inr ⟨h2, places rows q, [], rfl, .inl (by rw [List.append_nil]; exact LC), fun x hx => (by cases hx), pw1, fun _ HD a5 sD ha5 => ?_, fun x xs e => by cases e⟩⟩⟩
    rw [wayEq] at ha5
    refine ⟨_, rfl, ne_tup ha5 (sD _ _ ha) ⟨_, rfl, iteF ?_⟩⟩
    have ha := sD _ _ ha
    have hb := sD _ _ hb
    have LB := sD _ _ LB
    have LC := sD _ _ LC
    have SD := SC.trans sD
    clear sD SC ha5
    refine ⟨_, rfl, _, rfl, by show 2 ≤ sizeLine; decide, fun p3 hp3 => ?_⟩
    have sE : Same HD (upd HD p3 (.tup [.ref h1, .ref h2])) := same_new hp3
    have PE3 : (upd HD p3 (.tup [.ref h1, .ref h2])) p3 = some (.tup [.ref h1, .ref h2]) := upd_same
    generalize upd HD p3 (.tup [.ref h1, .ref h2]) = HE at sE PE3
    have LB := sE _ _ LB
    have LC := sE _ _ LC
    have hb := sE _ _ hb
    have ha := sE _ _ ha
    have SE := SD.trans sE
    clear sE SD
    refine ⟨_, rfl, t, _, rfl, .inr (SqT.of (SE _ _ ht)), fun h3 hh3 => ?_⟩
    have sF : Same HE (upd HE h3 (.lst (iV q))) := same_new hh3
    have LF : (upd HE h3 (.lst (iV q))) h3 = some (.lst (iV q)) := upd_same
    generalize upd HE h3 (.lst (iV q)) = HF at sF LF
    refine ⟨_, rfl, b, _, rfl, .inr (SqT.of (sF _ _ hb)), fun h4 hh4 => ?_⟩
    have sG : Same HF (upd HF h4 (.lst (nV (places rows q)))) := same_new hh4
    have LG : (upd HF h4 (.lst (nV (places rows q)))) h4 = some (.lst (nV (places rows q))) := upd_same
    generalize upd HF h4 (.lst (nV (places rows q))) = HG at sG LG
    refine ⟨by show 2 ≤ sizeLine; decide, fun p4 hp4 => ?_⟩
    have sH : Same HG (upd HG p4 (.tup [.ref h3, .ref h4])) := same_new hp4
    have PH : (upd HG p4 (.tup [.ref h3, .ref h4])) p4 = some (.tup [.ref h3, .ref h4]) := upd_same
    generalize upd HG p4 (.tup [.ref h3, .ref h4]) = HH at sH PH
    have sEH : Same HE HH := (sF.trans sG).trans sH
    refine ⟨.tuple [.list (dI q), .list (dI ((places rows q).map fun i => ((i : Nat) : Int)))], .tuple [.list (dI q), .list (dI ((places rows q).map fun i => ((i : Nat) : Int)))], .tup (SqT.of (sEH _ _ PE3)) (.cons (dp_lst (sEH _ _ LB)) (.cons (dp_lstN (sEH _ _ LC)) .nil)),
      .tup (SqT.of PH) (.cons (dp_lst (sH _ _ (sG _ _ LF))) (.cons (dp_lstN (sH _ _ LG)) .nil)), sh_pairLL _ _, sh_pairLL _ _, _, rfl, ?_⟩
    rw [eq_pairLL]
    refine iteF ?_
    have ha := sEH _ _ ha
    have SH := SE.trans sEH
    clear sEH sF sG sH PH LF LG PE3 LB LC hh3 hh4 hp4 hp3 SE hb
    -- beginnings
    have rg : ∀ L : Nat, L < 31 → Builtin.Range.small 0 (L : Nat) 5 = true ∧ Builtin.Range.rangeSize 0 (L : Nat) 5 = (((L + 4) / 5 : Nat) : Int) := by decide
    have rgq := rg (iV q).length (by rw [iV_len]; omega)
    refine ⟨_, rfl, t, _, rfl, .inr (SqT.of (SH _ _ ht)), 0, ((iV q).length : Nat), 5, ((iV q).length + 4) / 5, rfl, ⟨by decide, by decide, rgq.1, rgq.2⟩, for_rangeC (lo := 0) (c := 5) (n := ((iV q).length + 4) / 5)
      (fun i σ H' => (∃ c7 c8, σ = [some (.ref m), some (.ref r), some (.ref t), some (.ref a), some (.ref b), some (.ref h1), some (.ref h2), c7, c8]) ∧ Same H H' ∧ H' a = some (.tup (iV (plain rows q)))) ⟨⟨_, _, rfl⟩, SH, ha⟩ (fun i σ HI hi ⟨⟨c7, c8, eσ⟩, SI, aI⟩ => ?_) fun σ HI ⟨⟨c7, c8, eσ⟩, SI, aI⟩ => ?_⟩
    · subst eσ
      have z0 : (0 : Int) ≤ 0 + (i : Nat) * 5 := by omega
      have qt : Que n (q.take (0 + (i : Nat) * 5 : Int).toNat) := fun c hc => hq c (List.mem_of_mem_take hc)
      have lt : (q.take (0 + (i : Nat) * 5 : Int).toNat).length ≤ q.length := by rw [List.length_take]; omega
      have pt := plain_que sq qt
      have plt := plain_len (rows := rows) (q := q.take (0 + (i : Nat) * 5 : Int).toNat)
      refine ⟨_, rfl, _, rfl, _, rfl, _, rfl, sl_any (SI _ _ ht) fun p HJ sJ eJ => ?_⟩
      rw [cut_take _ z0, map_take_iV] at eJ
      refine ⟨m, n, rows, .ref p, rfl, hM.same (SI.trans sJ), sq, .inl ⟨_, ⟨p, rfl, .inr eJ, qt, by omega⟩, fun HK u sK hu => ?_⟩⟩
      have SK := (SI.trans sJ).trans sK
      have aK := sK _ _ (sJ _ _ aI)
      clear eJ
      refine ⟨_, rfl, _, rfl, _, rfl, _, rfl, _, rfl, sl_any (SK _ _ ht) fun p2 HL sL eL => ?_⟩
      rw [cut_take _ z0, map_take_iV] at eL
      refine ⟨r, p2, as, rows, n, _, rfl, hL.same (SK.trans sL), sq, eL, qt, by omega, fun HM p5 a5 b5 sM hp5 ha5 hb5 => ?_⟩
      have SM := (SK.trans sL).trans sM
      have hu := sM _ _ (sL _ _ hu)
      have aM := sM _ _ (sL _ _ aK)
      refine ⟨p5, _, _, _, rfl, rfl, SqT.of hp5, atI_zero, ne_tup hu ha5 ⟨_, rfl, iteF ?_⟩⟩
      refine ⟨_, rfl, _, rfl, _, rfl, _, rfl, _, rfl, ?_⟩
      unfold tNoPart
      refine sl_any (SM _ _ ht) fun p6 HN sN eN => ?_
      rw [cut_drop _ z0, map_drop_iV] at eN
      refine cat_any (sN _ _ hu) eN (by rw [iV_len, iV_len, List.length_drop]; show _ ≤ 16777216; omega) fun p7 HO' sO eO => ?_
      rw [← iV_app] at eO
      have hd : Que n (plain rows (q.take (0 + (i : Nat) * 5 : Int).toNat) ++ q.drop (0 + (i : Nat) * 5 : Int).toNat) := fun c hc => by
        rcases List.mem_append.mp hc with h | h
        · exact pt c h
        · exact hq c (List.mem_of_mem_drop h)
      have ld : (plain rows (q.take (0 + (i : Nat) * 5 : Int).toNat) ++ q.drop (0 + (i : Nat) * 5 : Int).toNat).length ≤ 10000 := by rw [List.length_append, List.length_drop]; omega
      refine ⟨m, n, rows, .ref p7, rfl, hM.same ((SM.trans sN).trans sO), sq, .inl ⟨_, ⟨p7, rfl, .inr eO, hd, ld⟩, fun HP u2 sP hu2 => ?_⟩⟩
      rw [plain_head sq hq] at hu2
      have SP := ((SM.trans sN).trans sO).trans sP
      have aP := sP _ _ (sO _ _ (sN _ _ aM))
      exact ⟨_, rfl, ne_tup hu2 aP ⟨_, rfl, iteF ⟨⟨_, _, rfl⟩, SP, aP⟩⟩⟩
    · subst eσ
      exact k HI SI
end
end K7
end

section
-- K7Heard
set_option Elab.async false
set_option linter.all false
set_option maxRecDepth 100000
set_option maxHeartbeats 4000000
/-! what is heard of an ask: an own error's place. -/
namespace K7
open PySem PySem.Spec PyProof.Rows L2 LamX
/-- x is True, x any value that is told -/
def rIsTrue : R2 := fun x y H Q => Kd H x ∧ y = .bl true ∧ Q (.bl (decide (x = .bl true))) H
theorem op_isTrue {X : Cx} : OpR X (compareOp .Is) rIsTrue := by
  intro pins s σ H x y v u Q I rx ry h
  obtain ⟨k, rfl, q⟩ := h
  cases (show u = Value.bool true from ry)
  cases k with
  | non =>
    cases (show v = Value.none from rx)
    exact wpAny_is_other rfl (fun z => by cases z) ⟨.bl false, H, I, rfl, q⟩
  | bl b =>
    cases (show v = Value.bool b from rx)
    cases b with
    | true => exact wpAny_is_self rfl ⟨.bl true, H, I, rfl, q⟩
    | false => exact wpAny_is_other rfl (fun z => by cases z) ⟨.bl false, H, I, rfl, q⟩
  | int i =>
    obtain ⟨t, rfl⟩ := rx
    exact wpAny_is_other rfl (fun z => by cases z) ⟨.bl false, H, I, rfl, q⟩
  | str x =>
    obtain ⟨t, rfl⟩ := rx
    exact wpAny_is_other rfl (fun z => by cases z) ⟨.bl false, H, I, rfl, q⟩
  | lst e =>
    cases rx
    exact wpAny_is_other rfl (fun z => by cases z) ⟨.bl false, H, I, rfl, q⟩
  | tup e =>
    cases rx
    exact wpAny_is_other rfl (fun z => by cases z) ⟨.bl false, H, I, rfl, q⟩
theorem c_repr (K : PySem.W.Frag) {X : Cx} (hg : X.A.guards = some []) (hu : X.A.units + 64 < cLine) (hK : X.K = K := by rfl) : CallR X (.builtin "repr") (rRepr K) := by subst hK; exact call_repr (k := 0) hg hu
/-- an exception is wished for at as many slots as the frame has -/
theorem takes_len {X : Cx} {W : WX} (tk : Takes X W) : Takes X fun cls d σ H => σ.length = X.N.length → W cls d σ H := fun u s' ⟨a, B, sI, pins, σ, H, cls, d, e, I, nb, up, sky, na, os, ag, w⟩ =>
  tk u s' ⟨a, B, sI, pins, σ, H, cls, d, e, I, nb, up, sky, na, os, ag, w I.len⟩
/-- the errors that are heard -/
structure Errs (K : PySem.W.Frag) (mg : Str → Option Value) (CT CR CW CQ CN : Addr) : Prop where
  gT : mg "TooGreat" = some (.ref CT)
  gN : mg "NoCommand" = some (.ref CN)
  eR : ErrAt K mg "Refused" CR
  eW : ErrAt K mg "BadWay" CW
  eQ : ErrAt K mg "BadQueue" CQ
  rt : PySem.W.exmOne K (.ref CR) (.ref CT) = some false
  rr : PySem.W.exmOne K (.ref CR) (.ref CR) = some true
  wt : PySem.W.exmOne K (.ref CW) (.ref CT) = some false
  wr : PySem.W.exmOne K (.ref CW) (.ref CR) = some false
  ww : PySem.W.exmOne K (.ref CW) (.ref CW) = some true
  qt : PySem.W.exmOne K (.ref CQ) (.ref CT) = some false
  qr : PySem.W.exmOne K (.ref CQ) (.ref CR) = some false
  qw : PySem.W.exmOne K (.ref CQ) (.ref CW) = some false
  qq : PySem.W.exmOne K (.ref CQ) (.ref CQ) = some true
/-- what is answered to an error -/
def EH (K : PySem.W.Frag) (CR CW CQ : Addr) (Q : VK) : XK := fun cls d H' => ∃ (dd : Addr) (v : V), d = some dd ∧ H' dd = some (atF v) ∧
  ((cls = .ref CR ∧ ∃ dat, Dp K H' v dat ∧ CanShow dat ∧ ∀ p, H' p = none → Q (.ref p) (upd H' p (.tup [.str "refused", .str dat.shown]))) ∨
    (cls = .ref CW ∧ ∀ p, H' p = none → Q (.ref p) (upd H' p (.tup [.str "way", v]))) ∨ (cls = .ref CQ ∧ ∀ p, H' p = none → Q (.ref p) (upd H' p (.tup [.str "queue", v]))))
def TTH (K : PySem.W.Frag) (CR CW CQ : Addr) : (XK → Hp → VK → Prop) → Hp → VK → Prop := fun tl H Q => tl (EH K CR CW CQ Q) H fun v H1 => [V.str "told", v].length ≤ sizeLine ∧ ∀ p, H1 p = none → Q (.ref p) (upd H1 p (.tup [.str "told", v]))
abbrev scHdN : List Str := ["_law_ask", "fault"]
theorem scHd : FnScope scHdN ["_law_ask"] (defScope sLHeard) := ⟨rfl, rfl, rfl, by decide +kernel, rfl, by decide +kernel, by decide +kernel⟩
theorem heard_gives {X : Cx} {C CT CR CW CQ CN g : Addr} {cdg : Value} {k : Nat} {q : Str} (hP : X.prog = Pg) (T : Txt X.K X.mg C) (Er : Errs X.K X.mg CT CR CW CQ CN) (hgd : X.A.guards = some []) (hr : Room k X.A) :
    GivesTo X scHdN "_law_heard" (defScope sLHeard) g cdg (defBody sLHeard) "_law_ask" q (TTH X.K CR CW CQ) := by
  intro f c' s H Q tl act hc h
  obtain ⟨fR, eR⟩ := Er.eR
  obtain ⟨fW, eW⟩ := Er.eW
  obtain ⟨fQ, eQ⟩ := Er.eQ
  have hu : (X.A.deeper (envOfC "_law_heard" (defScope sLHeard) s.heap.objs.size g cdg)).units + 64 < cLine := by
    have := hr.un
    show X.A.units + 3 + 64 < cLine
    omega
  rw [← hP] at eR eW eQ
  refine ⟨_, pss_one (ps_tryA (i := 1) (l := [(.ref CT, fun _ _ _ => tNever), (.ref CR, _), (.ref CW, _), (.ref CQ, _), (.ref CN, fun _ _ _ => tNever)])
    (tb := fun W D σ H => ∃ Ech : XK, (∀ cls d σ' H', Ech cls d H' → σ'.length = 2 → W cls d σ' H') ∧ σ[0]? = some (some (.ref f)) ∧ H c' = some (CodeO c' q) ∧ tl Ech H fun v H1 => [V.str "told", v].length ≤ sizeLine ∧ ∀ p, H1 p = none → D.rt (.ref p) (upd H1 p (.tup [.str "told", v])))
    rfl rfl scHd.nd rfl rfl L2.takes0 (fun W pn xe tk _ => ?_)
    (.cons ⟨rfl, by decide, .inl Er.gT⟩ (fun a oe cls d pn hz hf => pss_never)
      (.cons ⟨rfl, by decide, .inl eR.gC⟩ (fun a oe cls d pn hz hf => pss_one (ps_ret (pe_tup (pa_cons pe_str (pa_cons (pe_callB (c_repr X.K (by exact hgd) (by exact hu)) (by rfl) (by exact T.repr) boot_repr (pa_cons (pe_byAt (by exact eR) hz hf (pv 1)) pa_nil)) pa_nil)))))
        (.cons ⟨rfl, by decide, .inl eW.gC⟩ (fun a oe cls d pn hz hf => pss_one (ps_ret (pe_tup (pa_cons pe_str (pa_cons (pe_byAt (by exact eW) hz hf (pv 1)) pa_nil)))))
          (.cons ⟨rfl, by decide, .inl eQ.gC⟩ (fun a oe cls d pn hz hf => pss_one (ps_ret (pe_tup (pa_cons pe_str (pa_cons (pe_byAt (by exact eQ) hz hf (pv 1)) pa_nil)))))
            (.cons ⟨rfl, by decide, .inl Er.gN⟩ (fun a oe cls d pn hz hf => pss_never) .nil)))))), ?_⟩
  · refine ⟨fun pins s' σ H' D I h' => ?_⟩
    obtain ⟨Ech, hW, h1, h2, h3⟩ := h'
    have hp := fun p1 p2 : Pos => act _ pn xe Ech p1 p2 (takes_len tk) fun cls d σ' H' e l => hW cls d σ' H' e l
    refine PSs.run (pss_one (ps_ret (pe_tup (pa_cons pe_str (pa_cons (hp _ _) pa_nil))))) pins s' σ H' D I ?_
    exact ⟨h1, h2, h3⟩
  · refine ⟨EH X.K CR CW CQ Q, fun cls d σ' H' e hl => ?_, rfl, hc, h⟩
    obtain ⟨dd, v, rfl, ed, e⟩ := e
    have sl : ∀ a : Addr, (σ'.set 1 (some (.ref a)))[1]? = some (some (.ref a)) := fun a => by rw [List.getElem?_set_self (by omega)]
    rcases e with ⟨rfl, dat, e1, e2, e3⟩ | ⟨rfl, e3⟩ | ⟨rfl, e3⟩
    · refine ⟨false, Er.rt, fun z => (by cases z), fun _ => ⟨true, Er.rr, fun _ a ha => ?_, fun z => (by cases z)⟩⟩
      exact ⟨_, sl a, rfl, rfl, dd, v, rfl, ed, v, dat, rfl, e1, e2.sh, e2.nd, e2.dp, e2.sz, by show 2 ≤ sizeLine; decide, e3⟩
    · refine ⟨false, Er.wt, fun z => (by cases z), fun _ => ⟨false, Er.wr, fun z => (by cases z), fun _ => ⟨true, Er.ww, fun _ a ha => ?_, fun z => (by cases z)⟩⟩⟩
      exact ⟨_, sl a, rfl, rfl, dd, v, rfl, ed, by show 2 ≤ sizeLine; decide, e3⟩
    · refine ⟨false, Er.qt, fun z => (by cases z), fun _ => ⟨false, Er.qr, fun z => (by cases z), fun _ => ⟨false, Er.qw, fun z => (by cases z), fun _ => ⟨true, Er.qq, fun _ a ha => ?_, fun z => (by cases z)⟩⟩⟩⟩
      exact ⟨_, sl a, rfl, rfl, dd, v, rfl, ed, by show 2 ≤ sizeLine; decide, e3⟩
/-- _law_heard(lambda: ..) -/
theorem pe_heard {X : Cx} {C CT CR CW CQ CN c P : Addr} {k : Nat} {Ts : List (Addr × Str)} {params : Arguments} {body : Expr} {scope : Scope} {t : XK → TE} {p lpos pos : Pos} (hP : X.prog = Pg) (D : DefAt X.K X.mg "_law_heard" sLHeard) (T : Txt X.K X.mg C) (Er : Errs X.K X.mg CT CR CW CQ CN) (hgd : X.A.guards = some []) (hr : Room (k + 2) X.A) (hg : Gl X "_law_heard")
    (TB : TabB X.base X.mg c P) (hcode : X.env.code = .ref c) (hmT : (P, X.env.qual ++ "<lambda>") ∈ Ts) (hu : ∀ p ∈ Ts, p.1 = P → p.2 = X.env.qual ++ "<lambda>") (L : LamS X.env.scope scope) (hdef : defaultsOf params X.env = ([], []))
    (hbind : ∀ (q : Str) (cl : List (Str × Addr)) (pm cv ctv : Value), bindArgs (PySem.W.kla_fn "<lambda>" q params body scope cl pm cv ctv) ⟨[], []⟩ = pure [])
    (hbody : ∀ (A : Around) (outer : List Env) (s : Shared) (H : Hp) (E : XK) (f c' : Addr), Room k (A.deeper (lamEnv X scope s.heap.objs.size f c')) → PE (lamCx X A outer s H E scope f c') body (t E)) :
    PE X (.Call (.Name "_law_heard" p) [.Lambda params body scope lpos] [] pos) (tLam Ts (TTH X.K CR CW CQ) t) := by
  obtain ⟨g, fd, hm, F⟩ := D
  have hbn := F.bindsN (ps := ["_law_ask"]) fun _ _ _ _ _ _ us hl => match us, hl with | [_], _ => rfl
  obtain ⟨oc, od, dV, kV, doc, pm, an, cdv, ct, osl, rfl, lk, hcd, _, _⟩ := F.ex
  exact pe_lamcall hg hm F.kp lk hcd hbn scHd rfl (Or.inl rfl) (heard_gives hP T Er hgd hr) TB hcode hmT hu hr L hdef hbind hbody
/-! ### all but the tables is kept -/
theorem _root_.LamX.ExtN.rl {H H' : Hp} {r : Addr} {as : List Addr} {rows : Rw} (s : ExtN H H') (h : RL H r as rows) : RL H' r as rows := ⟨s _ _ h.1 (fun ps z => by cases z), h.2.1, fun i a row e1 e2 => s _ _ (h.2.2 i a row e1 e2) fun ps z => by cases z⟩
theorem _root_.LamX.ExtN.mg {C : Addr} {H H' : Hp} {m : Addr} {n : Nat} {rows : Rw} (s : ExtN H H') (h : Mg C H m n rows) : Mg C H' m n rows := by
  obtain ⟨dx, r, as, h1, h2⟩ := h
  exact ⟨dx, r, as, s _ _ h1 (fun ps z => by cases z), s _ _ h2.1 (fun ps z => by cases z), h2.2.1, fun i a row e1 e2 => s _ _ (h2.2.2 i a row e1 e2) fun ps z => by cases z⟩
theorem _root_.LamX.ExtN.tup {H H' : Hp} {a : Addr} {xs : List V} (s : ExtN H H') (h : H a = some (.tup xs)) : H' a = some (.tup xs) := s _ _ h fun ps z => by cases z
theorem _root_.LamX.ExtN.lst {H H' : Hp} {a : Addr} {xs : List V} (s : ExtN H H') (h : H a = some (.lst xs)) : H' a = some (.lst xs) := s _ _ h fun ps z => by cases z
theorem _root_.LamX.ExtN.bx {H H' : Hp} {b : Addr} (s : ExtN H H') (h : Bx H b) : Bx H' b := by
  obtain ⟨g, r, e, x⟩ := h
  exact ⟨g, r, s.lst e, x⟩
theorem _root_.LamX.ExtN.same {H H' : Hp} (s : Same H H') : ExtN H H' := fun a o e _ => s a o e
/-- all but what stands at b and the tables is kept -/
def KN (b : Addr) (H H' : Hp) : Prop := ∀ a o, a ≠ b → H a = some o → (∀ ps, o ≠ .tbl ps) → H' a = some o
theorem KN.of {b : Addr} {H H' : Hp} (s : Keep b H H') : KN b H H' := fun a o n e _ => s a o n e
theorem KN.ofE {b : Addr} {H H' : Hp} (s : ExtN H H') : KN b H H' := fun a o _ e h => s a o e h
theorem KN.trans {b : Addr} {H H1 H2 : Hp} (x : KN b H H1) (y : KN b H1 H2) : KN b H H2 := fun a o n e h => y a o n (x a o n e h) h
theorem Tabs_keep {Ts : List (Addr × Str)} {b : Addr} {H H' : Hp} (h : LamX.Tabs Ts H) (s : Keep b H H') (hb : Bx H b) : LamX.Tabs Ts H' := fun p hp => by
  obtain ⟨ps, h1, h2, h3⟩ := h p hp
  obtain ⟨_, _, eb⟩ := hb.get
  refine ⟨ps, s _ _ (ne_of h1 eb (by intro z; cases z)) h1, h2, fun pos cv hc => ?_⟩
  obtain ⟨c, e1, e2⟩ := h3 pos cv hc
  exact ⟨c, e1, s _ _ (ne_of e2 eb (by intro z; unfold CodeO at z; cases z)) e2⟩
theorem Tabs_same {Ts : List (Addr × Str)} {H H' : Hp} (h : LamX.Tabs Ts H) (s : Same H H') : LamX.Tabs Ts H' := h.ext s
/-! ### what is heard, compared -/
theorem lay_ss {x y : Str} (ox : PyData.strOk x = true) (oy : PyData.strOk y = true) : PyData.canLay0 (.tuple [.str x, .str y]) = true := by
  show (PyData.strOk x && (PyData.strOk y && true)) = true
  rw [ox, oy]; rfl
theorem sh_ss {x y : Str} (ox : PyData.strOk x = true) (oy : PyData.strOk y = true) : SeqAt.shaped (.tuple [.str x, .str y]) = true := by
  unfold SeqAt.shaped
  rw [lay_ss ox oy]; rfl
theorem lay_si {x : Str} {i : Int} (ox : PyData.strOk x = true) : PyData.canLay0 (.tuple [.str x, .int i]) = true := by
  show (PyData.strOk x && (true && true)) = true
  rw [ox]; rfl
theorem sh_si {x : Str} {i : Int} (ox : PyData.strOk x = true) : SeqAt.shaped (.tuple [.str x, .int i]) = true := by
  unfold SeqAt.shaped
  rw [lay_si ox]; rfl
theorem ne_ss {K : PySem.W.Frag} {H : Hp} {a p : Addr} {x y : Str} {Q : VK} (h : H a = some (.tup [.str x, .str y])) (g : H p = some (.tup [.str x, .str y])) (ox : PyData.strOk x = true) (oy : PyData.strOk y = true) (k : Q (.bl false) H) : rNeD K (.ref a) (.ref p) H Q :=
  ⟨_, _, .tup (SqT.of h) (.cons (.str x) (.cons (.str y) .nil)), .tup (SqT.of g) (.cons (.str x) (.cons (.str y) .nil)), sh_ss ox oy, sh_ss ox oy, by rw [SeqAt.eqv_refl _ (lay_ss ox oy)]; exact k⟩
theorem eq_ss {K : PySem.W.Frag} {H : Hp} {a p : Addr} {x y : Str} {Q : VK} (h : H a = some (.tup [.str x, .str y])) (g : H p = some (.tup [.str x, .str y])) (ox : PyData.strOk x = true) (oy : PyData.strOk y = true) (k : Q (.bl true) H) : rEqD K (.ref a) (.ref p) H Q :=
  ⟨_, _, .tup (SqT.of h) (.cons (.str x) (.cons (.str y) .nil)), .tup (SqT.of g) (.cons (.str x) (.cons (.str y) .nil)), sh_ss ox oy, sh_ss ox oy, by rw [SeqAt.eqv_refl _ (lay_ss ox oy)]; exact k⟩
theorem ne_si {K : PySem.W.Frag} {H : Hp} {a p : Addr} {x : Str} {i : Int} {Q : VK} (h : H a = some (.tup [.str x, .int i])) (g : H p = some (.tup [.str x, .int i])) (ox : PyData.strOk x = true) (k : Q (.bl false) H) : rNeD K (.ref a) (.ref p) H Q :=
  ⟨_, _, .tup (SqT.of h) (.cons (.str x) (.cons (.int i) .nil)), .tup (SqT.of g) (.cons (.str x) (.cons (.int i) .nil)), sh_si ox, sh_si ox, by rw [SeqAt.eqv_refl _ (lay_si ox)]; exact k⟩
/-! ### places that can't be -/
/-- told, shown, of signs that are signs -/
structure Told (K : PySem.W.Frag) (H : Hp) (v : V) (d : PyData) : Prop where
  kd : Kd H v
  dp : Dp K H v d
  cs : CanShow d
  ok : PyData.strOk d.shown = true
theorem told_int {K : PySem.W.Frag} {H : Hp} {i : Int} (h : i.natAbs.log2 < 1920) (o : PyData.strOk (Str.ofString (toString i)) = true) : Told K H (.int i) (.int i) := ⟨.int i, .int i, ⟨decide_eq_true h, rfl, Nat.zero_le _, int_text_fits h⟩, o⟩
theorem small_ok : ∀ k : Nat, k < 40 → PyData.strOk (Str.ofString (toString ((k : Nat) : Int))) = true := by decide +kernel
theorem told_nat {K : PySem.W.Frag} {H : Hp} {k : Nat} (h : k < 40) : Told K H (.int (k : Nat)) (.int (k : Nat)) := told_int (Nat.lt_of_le_of_lt (log_small (by omega : ((k : Nat) : Int).natAbs < 1000)) (by decide)) (small_ok k h)
theorem told_gone {K : PySem.W.Frag} {H : Hp} : Told K H (.int (-1)) (.int (-1)) := told_int (by decide +kernel) (by decide +kernel)
theorem told_great {K : PySem.W.Frag} {H : Hp} : Told K H (.int (10 ^ 20)) (.int (10 ^ 20)) := told_int (by decide +kernel) (by decide +kernel)
theorem told_non {K : PySem.W.Frag} {H : Hp} : Told K H .non .none := ⟨.non, .non, ⟨rfl, rfl, by decide, by decide +kernel⟩, by decide +kernel⟩
theorem told_true {K : PySem.W.Frag} {H : Hp} : Told K H (.bl true) (.bool true) := ⟨.bl true, .bl true, ⟨rfl, rfl, by decide, by decide +kernel⟩, by decide +kernel⟩
theorem told_zero {K : PySem.W.Frag} {H : Hp} : Told K H (.str "0") (.str "0") := ⟨.str _, .str _, ⟨rfl, rfl, by decide, by decide +kernel⟩, by decide +kernel⟩
theorem told_tup {K : PySem.W.Frag} {H : Hp} {a : Addr} (h : H a = some (.tup [.int 0])) : Told K H (.ref a) (.tuple [.int 0]) := ⟨.tup h, .tup (SqT.of h) (.cons (.int 0) .nil), ⟨by decide +kernel, rfl, by decide, by decide +kernel⟩, by decide +kernel⟩
theorem dp_ext {K : PySem.W.Frag} {H H' : Hp} (s : ExtN H H') {v : V} {d : PyData} (t : Told K H v d) (hl : ∀ a, v = .ref a → ∃ xs : List Int, H a = some (.tup (iV xs)) ∧ d = .tuple (dI xs)) : Told K H' v d := by
  obtain ⟨k, dp, cs, ok⟩ := t
  cases k with
  | non => cases dp; exact ⟨.non, .non, cs, ok⟩
  | bl b => cases dp; exact ⟨.bl b, .bl b, cs, ok⟩
  | int i => cases dp; exact ⟨.int i, .int i, cs, ok⟩
  | str x => cases dp; exact ⟨.str x, .str x, cs, ok⟩
  | lst e =>
    obtain ⟨xs, h1, rfl⟩ := hl _ rfl
    exact ⟨.tup (s.tup h1), dp_tup (s.tup h1), cs, ok⟩
  | tup e =>
    obtain ⟨xs, h1, rfl⟩ := hl _ rfl
    exact ⟨.tup (s.tup h1), dp_tup (s.tup h1), cs, ok⟩
end K7
end

section
-- K7Hands
set_option Elab.async false
set_option linter.all false
set_option maxRecDepth 100000
set_option maxHeartbeats 4000000
/-! hands that merge wherever they like. -/
namespace K7
open PySem PySem.Spec PyProof.Rows L2 LamX
theorem seq_join {t u : TS} {D : Ends} {σ : L2.St} {H : Hp} (F : L2.St → Hp → Prop) (h : ∀ R : L2.St → Hp → Prop, (∀ σ' H', F σ' H' → R σ' H') → t { D with nx := R } σ H) (k : ∀ σ' H', F σ' H' → u D σ' H') : tSeq t u D σ H := h _ k
theorem asg_joinF {te : TE} {u : TS} {i : Nat} {D : Ends} {σ : L2.St} {H : Hp} (F : V → Hp → Prop) (hte : ∀ Q : VK, (∀ x H', F x H' → Q x H') → te σ H Q) (k : ∀ x H', F x H' → u D (σ.set i (some x)) H') : tSeq (tAsg te (gName i)) u D σ H := hte _ k
theorem if_split {tc : TT} {t u : TS} {D : Ends} {σ : L2.St} {H : Hp} (F : Bool → Prop) (h : ∀ R : Bool → Hp → Prop, (∀ b, F b → R b H) → tc σ H R) (k : ∀ b, F b → if b = true then t D σ H else u D σ H) : tIfS tc t u D σ H := h _ k
/-- a for over a range whose body may break, to one end -/
theorem for_rangeB {lo : Int} {n : Nat} {g : TG} {tb : TS} {D : Ends} {σ : L2.St} {H : Hp} (Pv : L2.St → Hp → Prop) (h0 : Pv σ H)
    (hs : ∀ i σ H, i < n → Pv σ H → ∀ R : L2.St → Hp → Prop, (∀ σ H, Pv σ H → R σ H) → g (.int (lo + i)) σ H fun σ2 H2 => tb { D with nx := Pv, ct := Pv, bk := R } σ2 H2) (hd : ∀ σ H, Pv σ H → D.nx σ H) :
    ∃ W : Nat → Nat → L2.St → Hp → Prop, (∃ m, W 0 m σ H) ∧ ∀ i m σ H, W i m σ H →
      ((Itr lo n).stop i H ∧ D.nx σ H) ∨ ((Itr lo n).go i H ∧ ∃ N : L2.St → Hp → Prop, (∀ σ' H', N σ' H' → ∃ m', m' < m ∧ W (i + 1) m' σ' H') ∧ ∀ x H', (Itr lo n).yld i H x H' → g x σ H' fun σ2 H2 => tb { D with nx := N, ct := N, bk := D.nx } σ2 H2) :=
  for_range (lo := lo) (n := n) (fun _ => Pv) h0 (fun i σ H hi p => hs i σ H hi p D.nx hd) hd
/-- [p for p in range(n) if P p]: the places -/
theorem lc_places {H1 : Hp} {dd : Addr} {n : Nat} {P : Nat → Bool} {g : TG} {tt : TT} {te : TE} {σ : L2.St} {vs : List Nat} {Qd : Hp → Prop} (hd0 : H1 dd = none) (hn : n ≤ 10000)
    (hg : ∀ (i : Nat) (H : Hp) (Q : L2.St → Hp → Prop), Q ((wipe σ vs).set 5 (some (.int (0 + (i : Nat))))) H → g (.int (0 + (i : Nat))) (wipe σ vs) H Q) (hw : ∀ i : Nat, wipe ((wipe σ vs).set 5 (some (.int (0 + (i : Nat))))) vs = wipe σ vs)
    (htt : ∀ (i : Nat) (H : Hp) (R : Bool → Hp → Prop), i < n → Same H1 H → R (P i) H → tt ((wipe σ vs).set 5 (some (.int (0 + (i : Nat))))) H R)
    (hte : ∀ (i : Nat) (H : Hp) (Q : VK), Q (.int (0 + (i : Nat))) H → te ((wipe σ vs).set 5 (some (.int (0 + (i : Nat))))) H Q)
    (hd : ∀ H' ps, Same H1 H' → H' dd = some (.lst (nV ps)) → ps.length ≤ n → (∀ p ∈ ps, p < n ∧ P p = true) → Qd H') :
    ∃ W : Nat → Nat → Hp → Prop, (∃ m, W 0 m (upd H1 dd (.lst []))) ∧ ∀ i m H, W i m H →
      ((Itr 0 n).stop i H ∧ Qd H) ∨ ((Itr 0 n).go i H ∧ ∃ Nx : Hp → Prop, (∀ H', Nx H' → ∃ m', m' < m ∧ W (i + 1) m' H') ∧ ∀ x H', (Itr 0 n).yld i H x H' → g x (wipe σ vs) H' fun σ2 H2 => wipe σ2 vs = wipe σ vs ∧ tt σ2 H2 fun b H3 =>
        if b = true then te σ2 H3 fun y H4 => ∃ acc, H4 dd = some (.lst acc) ∧ acc.length < sizeLine ∧ Nx (upd H4 dd (.lst (acc ++ [y]))) else Nx H3) := by
  refine lc_range (lo := 0) (n := n) (fun i H' => Same H1 H' ∧ ∃ ps : List Nat, H' dd = some (.lst (nV ps)) ∧ ps.length ≤ i ∧ ∀ p ∈ ps, p < n ∧ P p = true) ⟨same_new hd0, [], upd_same, Nat.zero_le _, fun _ z => by cases z⟩
    (fun i H2 hi ⟨S2, ps, e2, l2, h2⟩ => ?_) fun H2 ⟨S2, ps, e2, l2, h2⟩ => hd H2 ps S2 e2 l2 h2
  refine hg i H2 _ ⟨hw i, htt i H2 _ hi S2 ?_⟩
  cases hP : P i with
  | false => exact iteF ⟨S2, ps, e2, by omega, h2⟩
  | true =>
    refine iteT (hte i H2 _ ⟨_, e2, by rw [nV_len]; show _ < 16777216; omega, same_upd S2 hd0, ps ++ [i], ?_, by rw [List.length_append]; show ps.length + 1 ≤ i + 1; omega, fun p hp => ?_⟩)
    · rw [upd_same, nV_app, Int.zero_add]; rfl
    · rcases List.mem_append.mp hp with z | z
      · exact h2 p z
      · rw [List.mem_singleton.mp z]; exact ⟨hi, hP⟩
def spLHands (C : Addr) (Ts : List (Addr × Str)) : Sp := fun vs H Q _ => ∃ (b m r t : Addr) (as : List Addr) (rows : Rw) (n : Nat) (q : List Int), vs = [.ref b, .ref m, .ref r, .ref t] ∧ Bx H b ∧ Mg C H m n rows ∧ RL H r as rows ∧ Sq rows n ∧ r ≠ b ∧ (∀ a ∈ as, a ≠ b) ∧ H t = some (.tup (iV q)) ∧ Que n q ∧ q.length ≤ 30 ∧ LamX.Tabs Ts H ∧
  ∀ H', KN b H H' → Bx H' b → LamX.Tabs Ts H' → Q (.bl true) H'
section
variable {w : World} {K : PySem.W.Frag} {mg : Str → Option Value} {base : Heap} {C CT CR CW CQ CN Pt : Addr}
abbrev scHRN : List Str := ["_law_box_here", "_law_merger_here", "_law_rows_here", "_law_queue_here", "_law_turn", "_law_place", "_law_places", "_law_later", "_law_told", "_law_bad", "_law_here", "_law_stuck", "_law_way"]
theorem scHR : FnScope scHRN ["_law_box_here", "_law_merger_here", "_law_rows_here", "_law_queue_here"] (defScope sLHandsRight) := ⟨rfl, rfl, rfl, by decide +kernel, rfl, by decide +kernel, by decide +kernel⟩
def qHR : Str := (envOfC "_law_hands_right" (defScope sLHandsRight) 0 0 .none).qual ++ "<lambda>"
theorem ok_hands {Ts : List (Addr × Str)} (D : DefAt K mg "_law_hands_right" sLHandsRight) (T : Txt K mg C) (Er : Errs K mg CT CR CW CQ CN) (D__law_heard : DefAt K mg "_law_heard" sLHeard)
    (TBx : ∀ (f : Addr) (fd : FuncData) (cc : Addr), mg "_law_hands_right" = some (.ref f) → FnP K "_law_hands_right" sLHandsRight f fd → fd.code = .ref cc → TabB base mg cc Pt)
    (hmT : (Pt, qHR) ∈ Ts) (hu : ∀ p ∈ Ts, p.1 = Pt → p.2 = qHR)
    (GR_fold_at : KeepsR w K mg base (L2.CX Pg w) "fold_at" 5 ["merger", "queue", "place"] (spFoldAt C CQ CR)) (GR_way_end : KeepsR w K mg base (L2.CX Pg w) "way_end" 5 ["merger", "queue", "way"] (spWayEnd C CQ CW))
    (G__law_take : Keeps w K mg base CX0 "_law_take" 1 ["_law_box_here", "_law_many"] spLTake) (G__law_pick : Keeps w K mg base CX0 "_law_pick" 2 ["_law_box_here", "_law_some"] spLPick) (G__law_once : Keeps w K mg base CX0 "_law_once" 1 ["_law_rows_here", "_law_queue_here", "_law_place"] spLOnce) :
    KeepsG w K mg base CX0 "_law_hands_right" 9 ["_law_box_here", "_law_merger_here", "_law_rows_here", "_law_queue_here"] (spLHands C Ts) := by
  refine keepsG D scHR (fun vs H Q E h => ?_) (fun _ _ _ _ _ _ us hl => match us, hl with | [_, _, _, _], _ => rfl) fun f fd cdv A outer s H vs Q E hmf hF hcd hgd hr h => ?_
  · obtain ⟨b, m, r, t, as, rows, n, q, rfl, _⟩ := h
    rfl
  · obtain ⟨b, m, r, t, as, rows, n, q, rfl, hb, hM, hL, sq, nrb, nab, ht, hq, hlen, hTs, k⟩ := h
    obtain ⟨cc, hcc⟩ : ∃ cc, cdv = .ref cc := by
      obtain ⟨oc, od, dV, kV, doc, pm, an, cdv', ct, osl, rfl, lk, hc', _, _⟩ := hF.ex
      have e : cdv' = cdv := hcd
      subst e
      exact He.codeIn_ref hc'
    have TB := TBx f fd cc hmf hF (hcd.trans hcc)
    subst hcc
    have hcode : (envOfC "_law_hands_right" (defScope sLHandsRight) s.heap.objs.size f (.ref cc)).code = .ref cc := rfl
    refine ⟨_, (pss_cons (ps_asg (pe_tup (pa_cons (pv 3) (pa_cons (pe_lst pa_nil) pa_nil))) (pg_tupK K (n := 2) (by rfl) (pgs_cons (pg_name (i := 10) scHR.nd rfl (Or.inr rfl)) (pgs_cons (pg_name (i := 12) scHR.nd rfl (Or.inr rfl)) pgs_nil))))
      (pss_cons (ps_for PassesOwn.never rfl (pi_range1 (by rfl) T.range (pa_cons (pe_callB (c_len K) (by rfl) T.len PySem.boot_len (pa_cons (pv 3) pa_nil)) pa_nil)) (pg_name (i := 4) scHR.nd rfl (Or.inl rfl)) (pss_cons (ps_setLc (i := 6) (own := [("_law_place", 5)]) (g := gName 5) rfl scHR.nd rfl rfl (sw_true rfl rfl rfl (by decide +kernel)) (pi_range1 (by rfl) T.range (pa_cons (pe_op op_sub (pe_callB (c_len K) (by rfl) T.len PySem.boot_len (pa_cons (pv 10) pa_nil)) pe_int) pa_nil)) (blkOk_by (own := [("_law_place", 5)]) (N := scHRN) (sc := defScope sLHandsRight) (by decide +kernel)) (fun _ _ _ _ _ => (pg_name (i := 5) scHR.nd rfl (Or.inl rfl))) (fun _ _ _ _ _ => (pts_one (pt_cmpR op_notN (pe_ix (x_list K) (pe_ix (x_list K) (pv 2) (pe_ix (x_tup K) (pv 10) (pv 5) (fun _ _ => rfl)) (fun _ _ => rfl)) (pe_ix (x_tup K) (pv 10) (pe_op op_add (pv 5) pe_int) (fun _ _ => rfl)) (fun _ _ => rfl)) pe_non (nomark _)))) (fun _ _ _ _ _ => (pv 5)))
      (pss_cons (ps_if (PW.pt (pw_or (pt_cmpR (op_eqD hr.units) (pv 6) (pe_lst pa_nil) (nomark _)) (pw_or1 (pt_cmpR op_eq (pe_k G__law_take rfl (hr.mono (by decide)) (by rfl) pass0 (pa_cons (pv 0) (pa_cons pe_int pa_nil))) pe_int (nomark _))))) (pss_one ps_break) pss_nil)
      (pss_cons (ps_set (i := 5) scHR.nd rfl (Or.inl rfl) (pe_k G__law_pick rfl (hr.mono (by decide)) (by rfl) pass0 (pa_cons (pv 0) (pa_cons (pv 6) pa_nil))))
      (pss_cons (ps_set (i := 7) scHR.nd rfl (Or.inl rfl) (pe_k G__law_once rfl (hr.mono (by decide)) (by rfl) pass0 (pa_cons (pv 2) (pa_cons (pv 10) (pa_cons (pv 5) pa_nil)))))
      (pss_cons (ps_set (i := 8) scHR.nd rfl (Or.inl rfl) (pe_ifExp (pt_cmpR op_eq (pv 4) pe_int (nomark _)) (pe_k GR_fold_at.keeps rfl (hr.mono (by decide)) (by rfl) passL (pa_cons (pv 1) (pa_cons (pe_callTy (c_list K) (by rfl) T.list boot_list (pa_cons (pv 10) pa_nil)) (pa_cons (pv 5) pa_nil)))) (pe_kR GR_fold_at rfl (hr.mono (by decide)) (by rfl) passL (pk_cons (pv 5) (pk_cons (pv 10) (pk_cons (pv 1) pk_nil))))))
      (pss_cons (ps_if (pt_cmpR op_ne (pe_callB (call_repr (k := 0) hgd (hu_64 hr)) (by rfl) T.repr boot_repr (pa_cons (pv 8) pa_nil)) (pe_callB (call_repr (k := 0) hgd (hu_64 hr)) (by rfl) T.repr boot_repr (pa_cons (pv 7) pa_nil)) (nomark _)) (pss_one (ps_ret pe_bl)) pss_nil)
      (pss_one (ps_asg (pe_tup (pa_cons (pv 7) (pa_cons (pe_op op_cat (pv 12) (pe_lst (pa_cons (pv 5) pa_nil))) pa_nil))) (pg_tupK K (n := 2) (by rfl) (pgs_cons (pg_name (i := 10) scHR.nd rfl (Or.inr rfl)) (pgs_cons (pg_name (i := 12) scHR.nd rfl (Or.inr rfl)) pgs_nil))))))))))))
      (pss_cons (ps_if (PW.pt (pw_or (pt_cmpR op_ne (pe_callB (call_repr (k := 0) hgd (hu_64 hr)) (by rfl) T.repr boot_repr (pa_cons (pe_k GR_way_end.keeps rfl (hr.mono (by decide)) (by rfl) passL (pa_cons (pv 1) (pa_cons (pv 3) (pa_cons (pv 12) pa_nil)))) pa_nil)) (pe_callB (call_repr (k := 0) hgd (hu_64 hr)) (by rfl) T.repr boot_repr (pa_cons (pv 10) pa_nil)) (nomark _)) (pw_or1 (pt_cmpR (op_neD hr.units) (pe_kR GR_way_end rfl (hr.mono (by decide)) (by rfl) passL (pk_cons (pe_callTy (c_tuple K) (by rfl) T.tuple boot_tuple (pa_cons (pv 12) pa_nil)) (pk_cons (pe_callTy (c_list K) (by rfl) T.list boot_list (pa_cons (pv 3) pa_nil)) (pk_cons (pv 1) pk_nil)))) (pv 10) (nomark _))))) (pss_one (ps_ret pe_bl)) pss_nil)
      (pss_cons (ps_set (i := 9) scHR.nd rfl (Or.inr rfl) (pe_k G__law_pick rfl (hr.mono (by decide)) (by rfl) pass0 (pa_cons (pv 0) (pa_cons (pe_lst (pa_cons pe_non (pa_cons (pe_callB (c_len K) (by rfl) T.len PySem.boot_len (pa_cons (pv 10) pa_nil)) (pa_cons (pe_op op_sub (pe_callB (c_len K) (by rfl) T.len PySem.boot_len (pa_cons (pv 10) pa_nil)) pe_int) (pa_cons (pe_op op_sub pe_int pe_int) (pa_cons pe_bl (pa_cons pe_str (pa_cons (pe_tup (pa_cons pe_int pa_nil)) (pa_cons (pe_op op_pow pe_int pe_int) pa_nil))))))))) pa_nil))))
      (pss_cons (ps_if (PW.pt (pw_or (pt_cmpR op_isTrue (pv 9) pe_bl (nomark _)) (pw_or (pt_not (pt_val (pe_callB call_isi (by rfl) T.isinstance boot_isinstance (pa_cons (pv 9) (pa_cons (pe_bltn (v := .ty "int") (by rfl) T.int boot_int rfl) pa_nil))))) (pw_or1 (pt_not (pt_chain op_le op_lt pe_int (pv 9) (pe_op op_sub (pe_callB (c_len K) (by rfl) T.len PySem.boot_len (pa_cons (pv 10) pa_nil)) pe_int))))))) (pss_cons (ps_if (pt_cmpR (op_neD hr.units) (pe_heard (k := 6) (c := cc) (P := Pt) (Ts := Ts) rfl (by exact D__law_heard) (by exact T) (by exact Er) hgd (hr.mono (by decide)) (by rfl) (by exact TB) hcode hmT hu (lamS_by (sc := defScope sLHandsRight) (by decide +kernel)) rfl (fun _ _ _ _ _ => rfl) (fun A outer s H E f c1 hr2 => (pe_k GR_fold_at.keeps rfl (hr2.mono (by decide)) (by rfl) (passes_call (takes_of rfl rfl rfl rfl) (fun _ _ _ _ h => h)) (pa_cons (pv 1) (pa_cons (pv 10) (pa_cons (pv 9) pa_nil)))))) (pe_tup (pa_cons pe_str (pa_cons (pe_callB (call_repr (k := 0) hgd (hu_64 hr)) (by rfl) T.repr boot_repr (pa_cons (pv 9) pa_nil)) pa_nil))) (nomark _)) (pss_one (ps_ret pe_bl)) pss_nil)
      (pss_one (ps_if (pt_cmpR (op_neD hr.units) (pe_heard (k := 6) (c := cc) (P := Pt) (Ts := Ts) rfl (by exact D__law_heard) (by exact T) (by exact Er) hgd (hr.mono (by decide)) (by rfl) (by exact TB) hcode hmT hu (lamS_by (sc := defScope sLHandsRight) (by decide +kernel)) rfl (fun _ _ _ _ _ => rfl) (fun A outer s H E f c1 hr2 => (pe_k GR_way_end.keeps rfl (hr2.mono (by decide)) (by rfl) (passes_call (takes_of rfl rfl rfl rfl) (fun _ _ _ _ h => h)) (pa_cons (pv 1) (pa_cons (pv 3) (pa_cons (pe_op op_cat (pv 12) (pe_lst (pa_cons (pv 9) (pa_cons pe_non pa_nil)))) pa_nil)))))) (pe_tup (pa_cons pe_str (pa_cons (pe_callB (c_len K) (by rfl) T.len PySem.boot_len (pa_cons (pv 12) pa_nil)) pa_nil))) (nomark _)) (pss_one (ps_ret pe_bl)) pss_nil))) pss_nil)
      (pss_cons (ps_set (i := 11) scHR.nd rfl (Or.inr rfl) (pe_lc (own := [("_law_place", 5)]) (g := gName 5) rfl scHR.nd (pi_range1 (by rfl) T.range (pa_cons (pe_op op_sub (pe_callB (c_len K) (by rfl) T.len PySem.boot_len (pa_cons (pv 10) pa_nil)) pe_int) pa_nil)) (blkOk_by (own := [("_law_place", 5)]) (N := scHRN) (sc := defScope sLHandsRight) (by decide +kernel)) (fun _ _ _ _ _ => (pg_name (i := 5) scHR.nd rfl (Or.inl rfl))) (fun _ _ _ _ _ => (pts_one (pt_cmpR op_isN (pe_ix (x_list K) (pe_ix (x_list K) (pv 2) (pe_ix (x_tup K) (pv 10) (pv 5) (fun _ _ => rfl)) (fun _ _ => rfl)) (pe_ix (x_tup K) (pv 10) (pe_op op_add (pv 5) pe_int) (fun _ _ => rfl)) (fun _ _ => rfl)) pe_non (nomark _)))) (fun _ _ _ _ _ => (pv 5))))
      (pss_one (ps_ret (pe_or (pe_cmpR (op_eqD hr.units) (pv 11) (pe_lst pa_nil) (nomark _)) (pe_one (pe_cmpR (op_eqD hr.units) (pe_heard (k := 6) (c := cc) (P := Pt) (Ts := Ts) rfl (by exact D__law_heard) (by exact T) (by exact Er) hgd (hr.mono (by decide)) (by rfl) (by exact TB) hcode hmT hu (lamS_by (sc := defScope sLHandsRight) (by decide +kernel)) rfl (fun _ _ _ _ _ => rfl) (fun A outer s H E f c1 hr2 => (pe_k GR_fold_at.keeps rfl (hr2.mono (by decide)) (by rfl) (passes_call (takes_of rfl rfl rfl rfl) (fun _ _ _ _ h => h)) (pa_cons (pv 1) (pa_cons (pv 10) (pa_cons (pe_ix (x_list K) (pv 11) pe_int (fun _ _ => rfl)) pa_nil)))))) (pe_tup (pa_cons pe_str (pa_cons (pe_callB (call_repr (k := 0) hgd (hu_64 hr)) (by rfl) T.repr boot_repr (pa_cons (pe_ix (x_list K) (pv 11) pe_int (fun _ _ => rfl)) pa_nil)) pa_nil))) (nomark _)))))))))))), ?_⟩
    have n12 := sq.most
    refine ⟨_, rfl, Nat.zero_le _, fun lw hlw => ⟨by show 2 ≤ sizeLine; decide, fun tp htp => ⟨tp, _, rfl, SqT.of upd_same, rfl, _, _, rfl, _, _, rfl, rfl, ?_⟩⟩⟩
    have S1 : Same H (upd (upd H lw (.lst [])) tp (.tup [.ref t, .ref lw])) := (same_new hlw).new htp
    have L1 : (upd (upd H lw (.lst [])) tp (.tup [.ref t, .ref lw])) lw = some (.lst (nV [])) := by rw [upd_ne (ne_of_none upd_same htp), upd_same]; rfl
    dsimp only
    show tSeq _ _ _ _ (upd (upd H lw (.lst [])) tp (.tup [.ref t, .ref lw]))
    generalize upd (upd H lw (.lst [])) tp (.tup [.ref t, .ref lw]) = H1 at S1 L1
    have nlw := hb.ne hlw
    have bxe := hb.get
    -- what stands while only draws are made
    have mgK : ∀ {H'}, Keep b H H' → Mg C H' m n rows := fun s => by
      obtain ⟨_, _, e⟩ := bxe
      exact hM.keep s e
    have rlK : ∀ {H'}, Keep b H H' → RL H' r as rows := fun s => hL.keep s nrb nab
    have tK : ∀ {H'}, Keep b H H' → H' t = some (.tup (iV q)) := fun s => by
      obtain ⟨_, _, e⟩ := bxe
      exact s _ _ (ne_of ht e (by intro z; cases z)) ht
    refine ⟨_, rfl, t, _, rfl, .inr (SqT.of (S1 _ _ ht)), ((iV q).length : Nat), rfl, by omega, by rw [iV_len]; omega, for_rangeB (lo := 0) (n := (((iV q).length : Nat) : Int).toNat)
      (fun σ H' => ∃ (x4 x5 x6 x7 x8 : Option V) (th lw : Addr) (w : List Nat), σ = [some (.ref b), some (.ref m), some (.ref r), some (.ref t), x4, x5, x6, x7, x8, none, some (.ref th), none, some (.ref lw)] ∧ Keep b H H' ∧ Bx H' b ∧ WayOk rows q w ∧ H' th = some (.tup (iV (wayEnd rows q w))) ∧ H' lw = some (.lst (nV w)) ∧ lw ≠ b)
      ⟨_, _, _, _, _, t, lw, [], rfl, Keep.of S1, hb.same S1, trivial, S1 _ _ ht, L1, nlw⟩ (fun i σ H2 hi ⟨x4, x5, x6, x7, x8, th, lw, w, eσ, K2, b2, hw, eth, elw, nlw⟩ R stop => ?_) fun σ H2 ⟨x4, x5, x6, x7, x8, th, lw, w, eσ, K2, b2, hw, eth, elw, nlw⟩ => ?_⟩
    · subst eσ
      have wl := wayEnd_len hw
      have hq2 := wayEnd_que sq hq hw
      obtain ⟨qq, eqq⟩ : ∃ qq, qq = wayEnd rows q w := ⟨_, rfl⟩
      rw [← eqq] at eth wl hq2
      have lq : (iV qq).length = qq.length := iV_len _
      -- the places
      refine ⟨_, rfl, th, _, rfl, .inr (SqT.of eth), _, _, rfl, rfl, _, rfl, by rw [lq]; omega, by rw [lq]; omega, fun dd hdd => ?_⟩
      refine lc_places (n := (((iV qq).length : Nat) - 1 : Int).toNat) (P := fun p => (nb rows qq p).isSome) hdd (by rw [lq]; omega) (fun i H Q q => q) (fun i => rfl) (fun j H3 R2 hj S3 hR => ?_) (fun i H Q q => ⟨_, rfl, q⟩) fun H3 ps S3 e3 l3 h3 => ?_
      · rw [lq] at hj
        have hj2 : j + 1 < qq.length := by omega
        have hj1 : j < qq.length := by omega
        have hL3 := (rlK K2).same S3
        have eth3 := S3 _ _ eth
        obtain ⟨pa, wa, f1, f2, f3, _⟩ := hL3.get sq (hq2.getD hj1) (hq2.getD hj2)
        have i1 : atI (iV qq) (0 + (j : Nat)) = some (.int (qq.getD j 0)) := by rw [Int.zero_add]; exact iV_at hj1
        have i2 : atI (iV qq) (0 + (j : Nat) + 1) = some (.int (qq.getD (j + 1) 0)) := by rw [Int.zero_add]; exact iV_at hj2
        refine ⟨_, rfl, _, rfl, _, rfl, th, _, _, _, rfl, rfl, SqT.of eth3, i1, r, _, _, _, rfl, rfl, SqL.of hL3.1, f1, _, rfl, _, rfl, _, _, rfl, rfl, th, _, _, _, rfl, rfl, SqT.of eth3, i2, pa, _, _, _, rfl, rfl, SqL.of f2, f3, rfl, _, rfl, ?_⟩
        have e : (!decide (eV (rows.at (qq.getD j 0) (qq.getD (j + 1) 0)) = V.non)) = (nb rows qq j).isSome := by
          rw [eV_non]
          unfold nb
          cases rows.at (qq.getD j 0) (qq.getD (j + 1) 0) <;> rfl
        rw [e]
        exact hR
      · have K3 := K2.trans (Keep.of S3)
        have b3 := b2.same S3
        have eth3 := S3 _ _ eth
        have elw3 := S3 _ _ elw
        have ndd := b2.ne hdd
        have hps : ∀ p ∈ ps, Can rows qq p := fun p hp => by
          obtain ⟨z1, z2⟩ := h3 p hp
          rw [lq] at z1
          refine ⟨by omega, fun z => ?_⟩
          rw [z] at z2; cases z2
        refine ⟨_, rfl, Nat.zero_le _, fun p0 hp0 => ?_⟩
        have S4 : Same H3 (upd H3 p0 (.lst [])) := same_new hp0
        refine eq_nil_ (q := ps.map fun i => ((i : Nat) : Int)) (by rw [← nV_iV]; exact S4 _ _ e3) upd_same ⟨_, rfl, ?_⟩
        generalize upd H3 p0 (.lst []) = H4 at S4
        have K4 := K3.trans (Keep.of S4)
        have b4 := b3.same S4
        have eth4 := S4 _ _ eth3
        have elw4 := S4 _ _ elw3
        have e4 := S4 _ _ e3
        by_cases hemp : ps = []
        · subst hemp
          exact iteT (iteT (stop _ _ ⟨_, _, _, _, _, th, lw, w, rfl, K4, b4, hw, by rw [← eqq]; exact eth4, elw4, nlw⟩))
        · have ne : (ps.map fun i => ((i : Nat) : Int)).isEmpty = false := by cases ps with
            | nil => exact absurd rfl hemp
            | cons => rfl
          rw [ne]
          refine iteF ⟨_, rfl, b, 12, rfl, b4, by decide, by decide, fun e12 H5 he12 K5 b5 => ⟨rfl, _, rfl, ?_⟩⟩
          have K5' := K4.trans K5
          obtain ⟨_, _, eb4⟩ := b4.get
          have eth5 := K5 _ _ (ne_of eth4 eb4 (by intro z; cases z)) eth4
          have elw5 := K5 _ _ nlw elw4
          have e5 := K5 _ _ ndd e4
          refine ite2 (fun _ => stop _ _ ⟨_, _, _, _, _, th, lw, w, rfl, K5', b5, hw, by rw [← eqq]; exact eth5, elw5, nlw⟩) (fun _ => ?_)
          -- a place
          have pl1 : 1 ≤ (nV ps).length := by
            rw [nV_len]
            cases ps with
            | nil => exact absurd rfl hemp
            | cons p ps => exact Nat.succ_le_succ (Nat.zero_le _)
          refine ⟨_, rfl, _, rfl, b, dd, _, rfl, b5, e5, ndd, pl1, by rw [nV_len]; rw [lq] at l3; omega, fun x H6 hx K6 b6 => ?_⟩
          obtain ⟨pp, hpp, rfl⟩ := List.mem_map.mp hx
          have can := hps pp hpp
          have K6' := K5'.trans K6
          obtain ⟨_, _, eb5⟩ := b5.get
          have eth6 := K6 _ _ (ne_of eth5 eb5 (by intro z; cases z)) eth5
          have elw6 := K6 _ _ nlw elw5
          -- later
          refine ⟨_, rfl, _, rfl, _, rfl, r, th, as, rows, n, qq, pp, rfl, rlK K6', sq, eth6, hq2, by omega, can, fun H7 u S7 eu => ?_⟩
          have K7 := K6'.trans (Keep.of S7)
          have b7 := b6.same S7
          have eth7 := S7 _ _ eth6
          have elw7 := S7 _ _ elw6
          have gq : ∀ {H'}, Same H7 H' → GoodQ H' n (.ref th) qq := fun s => ⟨th, rfl, .inr (s _ _ eth7), hq2, by omega⟩
          have inj : ∀ {i : Nat}, V.int ((pp : Nat) : Int) = V.int ((i : Nat) : Int) → i = pp := fun e => by injection e with e; omega
          dsimp only
          show tSeq _ _ _ _ _
          refine asg_joinF (fun x H' => ∃ v : Addr, x = .ref v ∧ Same H7 H' ∧ H' v = some (.tup (iV (once rows qq pp)))) (fun Q1 rest => ?_) ?_
          · refine ⟨_, rfl, rfl, _, rfl, ?_⟩
            refine ite2 (fun _ => ?_) (fun _ => ?_)
            · refine ⟨_, rfl, _, rfl, th, _, rfl, .inr (SqT.of eth7), fun l hl => ⟨_, rfl, m, n, rows, .ref l, _, rfl, (mgK K7).same (same_new hl), sq, .inl ⟨qq, ⟨l, rfl, .inl upd_same, hq2, by omega⟩, .int _, fun i e _ H8 v S8 ev => ?_, fun hc => ?_⟩⟩⟩
              · rw [inj e] at ev
                exact rest _ H8 ⟨v, rfl, (same_new hl).trans S8, ev⟩
              · rw [canB_nat.mpr can] at hc; cases hc
            · refine ⟨_, rfl, _, rfl, _, rfl, rfl, m, n, rows, .ref th, _, rfl, mgK K7, sq, .inl ⟨qq, gq (Same.refl _), .int _, fun i e _ H8 v S8 ev => ?_, fun hc => ?_⟩⟩
              · rw [inj e] at ev
                exact rest _ H8 ⟨v, rfl, S8, ev⟩
              · rw [canB_nat.mpr can] at hc; cases hc
          · rintro x H8 ⟨v, rfl, S8, ev⟩
            have eu8 := S8 _ _ eu
            have cs : CanShow (.tuple (dI (once rows qq pp))) := show_tuple (small_que (once_que sq hq2 can) n12 (by have := once_len can; omega))
            refine ⟨_, rfl, _, _, rfl, dp_tup ev, cs.sh, cs.nd, cs.dp, cs.sz, _, rfl, _, _, rfl, dp_tup eu8, cs.sh, cs.nd, cs.dp, cs.sz, rfl, _, rfl, ?_⟩
            rw [decide_eq_true rfl]
            refine iteF ?_
            -- here, way
            refine ⟨_, rfl, _, rfl, _, rfl, by show 1 ≤ sizeLine; decide, fun l1 hl1 => ⟨_, _, _, _, rfl, rfl, same_new hl1 _ _ (S8 _ _ elw7), upd_same, by rw [nV_len]; show _ + 1 ≤ 16777216; omega, fun p2 hp2 => ⟨by show 2 ≤ sizeLine; decide, fun tp htp => ⟨tp, _, rfl, SqT.of upd_same, rfl, _, _, rfl, _, _, rfl, rfl, ?_⟩⟩⟩⟩
            have S9 := ((same_new (o := .lst [V.int ((pp : Nat) : Int)]) hl1).new (o := .lst (nV w ++ [V.int ((pp : Nat) : Int)])) hp2).new (o := .tup [.ref u, .ref p2]) htp
            have S79 := S8.trans S9
            have n2b : p2 ≠ b := by
              have b8 := (b7.same S8).same (same_new (o := .lst [V.int ((pp : Nat) : Int)]) hl1)
              exact b8.ne hp2
            refine ⟨_, _, _, _, _, u, p2, w ++ [pp], rfl, K7.trans (Keep.of S79), b7.same S79, wayOk_snoc rows q w pp hw (by rw [← eqq]; exact can), ?_, ?_, n2b⟩
            · rw [wayEnd_snoc, ← eqq]
              exact S79 _ _ eu
            · rw [upd_ne (ne_of_none upd_same htp), upd_same, nV_app]
              rfl
    · subst eσ
      have wl := wayEnd_len hw
      have hq2 := wayEnd_que sq hq hw
      have cs : CanShow (.tuple (dI (wayEnd rows q w))) := show_tuple (small_que hq2 n12 (by omega))
      refine ⟨_, rfl, _, rfl, _, rfl, m, n, rows, .ref t, .ref lw, rfl, mgK K2, sq, .inl ⟨q, ⟨t, rfl, .inr (tK K2), hq, by omega⟩, .lst elw, .inr ⟨lw, w, [], rfl, .inl (by rw [List.append_nil]; exact elw), fun x hx => (by cases hx), hw, fun _ H3 u S3 eu => ?_, fun x xs e => by cases e⟩⟩⟩
      have K3 := K2.trans (Keep.of S3)
      have b3 := b2.same S3
      have eth3 := S3 _ _ eth
      have elw3 := S3 _ _ elw
      refine ⟨_, _, rfl, dp_tup eu, cs.sh, cs.nd, cs.dp, cs.sz, _, rfl, _, _, rfl, dp_tup eth3, cs.sh, cs.nd, cs.dp, cs.sz, rfl, _, rfl, ?_⟩
      rw [decide_eq_true rfl]
      refine iteF ?_
      -- again
      refine ⟨_, rfl, lw, _, rfl, .inl ⟨SqL.of elw3, fun l1 hl1 => ?_⟩⟩
      have s4 : Same H3 (upd H3 l1 (.tup (nV w))) := same_new hl1
      have L4 : (upd H3 l1 (.tup (nV w))) l1 = some (.tup (nV w)) := upd_same
      generalize upd H3 l1 (.tup (nV w)) = H4 at s4 L4
      have K4 := K3.trans (Keep.of s4)
      refine ⟨_, rfl, t, _, rfl, .inr (SqT.of (tK K4)), fun l2 hl2 => ?_⟩
      have s5 : Same H4 (upd H4 l2 (.lst (iV q))) := same_new hl2
      have L5 : (upd H4 l2 (.lst (iV q))) l2 = some (.lst (iV q)) := upd_same
      generalize upd H4 l2 (.lst (iV q)) = H5 at s5 L5
      have K5 := K4.trans (Keep.of s5)
      refine ⟨_, rfl, rfl, m, n, rows, .ref l2, .ref l1, rfl, mgK K5, sq, .inl ⟨q, ⟨l2, rfl, .inl L5, hq, by omega⟩, .tup (s5 _ _ L4), .inr ⟨l1, w, [], rfl, .inr (by rw [List.append_nil]; exact s5 _ _ L4), fun x hx => (by cases hx), hw, fun _ H6 u2 s6 eu2 => ?_, fun x xs e => by cases e⟩⟩⟩
      have s36 := (s4.trans s5).trans s6
      have eth6 := s36 _ _ eth3
      refine ⟨_, rfl, ne_tup eu2 eth6 ⟨_, rfl, iteF ?_⟩⟩
      have K6 := K3.trans (Keep.of s36)
      have b6 := b3.same s36
      have elw6 := s36 _ _ elw3
      clear eu2 eu L4 L5 K5 K4 s6 s5 s4 s36 elw3 eth3 b3 K3 S3 eth elw b2 K2
      obtain ⟨qq, eqq⟩ : ∃ qq, qq = wayEnd rows q w := ⟨_, rfl⟩
      rw [← eqq] at wl hq2 cs eth6
      have lq : (iV qq).length = qq.length := iV_len _
      -- a place that may be bad
      refine ⟨_, rfl, _, rfl, th, _, rfl, .inr (SqT.of eth6), _, rfl, th, _, rfl, .inr (SqT.of eth6), _, _, rfl, rfl, _, _, rfl, rfl, by show 1 ≤ sizeLine; decide, fun tp htp => ⟨_, _, rfl, rfl, ⟨by decide, by decide, by decide⟩, by show 8 ≤ sizeLine; decide, fun l8 hl8 => ⟨b, l8, [V.non, V.int ((iV qq).length : Nat), V.int (((iV qq).length : Nat) - 1), V.int (0 - 1), V.bl true, V.str "0", V.ref tp, V.int (10 ^ (20 : Int).toNat)], rfl, ?_⟩⟩⟩
      have s7 := (same_new (o := .tup [V.int 0]) htp).new (o := .lst [V.non, V.int ((iV qq).length : Nat), V.int (((iV qq).length : Nat) - 1), V.int (0 - 1), V.bl true, V.str "0", V.ref tp, V.int (10 ^ (20 : Int).toNat)]) hl8
      have b7 := b6.same s7
      have tp7 : (upd (upd H6 tp (.tup [V.int 0])) l8 (.lst [V.non, V.int ((iV qq).length : Nat), V.int (((iV qq).length : Nat) - 1), V.int (0 - 1), V.bl true, V.str "0", V.ref tp, V.int (10 ^ (20 : Int).toNat)])) tp = some (.tup [V.int 0]) := by rw [upd_ne (ne_of_none upd_same hl8), upd_same]
      have n8b : l8 ≠ b := (b6.same (same_new (o := .tup [V.int 0]) htp)).ne hl8
      refine ⟨b7, upd_same, n8b, by show 1 ≤ 8; decide, by show 8 ≤ 10000; decide, fun x H8 hx k8 b8 => ?_⟩
      generalize upd (upd H6 tp (.tup [V.int 0])) l8 (.lst [V.non, V.int ((iV qq).length : Nat), V.int (((iV qq).length : Nat) - 1), V.int (0 - 1), V.bl true, V.str "0", V.ref tp, V.int (10 ^ (20 : Int).toNat)]) = H7 at s7 b7 tp7 k8
      obtain ⟨_, _, eb7⟩ := b7.get
      have tp8 := k8 _ _ (ne_of tp7 eb7 (by intro z; cases z)) tp7
      have eth8 := k8 _ _ (ne_of (s7 _ _ eth6) eb7 (by intro z; cases z)) (s7 _ _ eth6)
      have elw8 := k8 _ _ nlw (s7 _ _ elw6)
      have K8 := (K6.trans (Keep.of s7)).trans k8
      have T8 := Tabs_keep hTs K8 hb
      clear k8 s7 b7 tp7 n8b eb7 b6 K6 elw6 eth6
      have told : ∃ d, Told K H8 x d ∧ (∀ a, x = .ref a → ∃ xs : List Int, H8 a = some (.tup (iV xs)) ∧ d = .tuple (dI xs)) ∧ x ≠ .bl false := by
        simp only [List.mem_cons, List.not_mem_nil, or_false] at hx
        rcases hx with rfl | rfl | rfl | rfl | rfl | rfl | rfl | rfl
        · exact ⟨_, told_non, fun a z => (by cases z), by intro z; cases z⟩
        · exact ⟨_, told_nat (by rw [lq]; omega), fun a z => (by cases z), by intro z; cases z⟩
        · by_cases z0 : (iV qq).length = 0
          · rw [z0]; exact ⟨_, told_gone, fun a z => (by cases z), by intro z; cases z⟩
          · have e : (((iV qq).length : Nat) : Int) - 1 = (((iV qq).length - 1 : Nat) : Int) := by omega
            rw [e]; exact ⟨_, told_nat (by rw [lq]; omega), fun a z => (by cases z), by intro z; cases z⟩
        · exact ⟨_, told_gone, fun a z => (by cases z), by intro z; cases z⟩
        · exact ⟨_, told_true, fun a z => (by cases z), by intro z; cases z⟩
        · exact ⟨_, told_zero, fun a z => (by cases z), by intro z; cases z⟩
        · exact ⟨_, told_tup tp8, fun a z => (by cases z; exact ⟨[0], tp8, rfl⟩), by intro z; cases z⟩
        · exact ⟨_, told_great, fun a z => (by cases z), by intro z; cases z⟩
      obtain ⟨dx, td, tr, nfl⟩ := told
      clear tp8 hx htp hl8
      dsimp only
      show tSeq _ _ _ _ _
      refine seq_join (fun σ' H' => σ' = [some (.ref b), some (.ref m), some (.ref r), some (.ref t), x4, x5, x6, x7, x8, some x, some (.ref th), none, some (.ref lw)] ∧ ExtN H8 H' ∧ LamX.Tabs Ts H') (fun R stop => ?_) ?_
      · refine if_split (fun bb => bb = true → canB rows qq x = false) (fun R2 hR => ?_) fun bb hbb => ?_
        · have ki := kd_int (K := K) td.kd
          obtain ⟨t', bi, ci, ty, hk1, hk2, _⟩ := ki
          have hcb : (∀ i : Int, x = .int i → ¬ (0 ≤ i ∧ i < (qq.length : Nat) - 1)) → canB rows qq x = false := fun hn => by
            cases hc : canB rows qq x with
            | false => rfl
            | true =>
              obtain ⟨i, ex, can⟩ := canB_int hc
              have := can.1
              exact absurd ⟨by omega, by omega⟩ (hn _ ex)
          refine ⟨_, rfl, td.kd, rfl, _, rfl, ?_⟩
          by_cases xt : x = .bl true
          · rw [decide_eq_true xt]
            exact iteT (hR _ fun _ => hcb fun i e => by rw [xt] at e; cases e)
          · rw [decide_eq_false xt]
            have fin : (∀ i : Int, x ≠ .int i) → ∀ c, R2 c H8 := fun hn c => hR _ fun _ => hcb fun i e => absurd e (hn i)
            have kk := td.kd
            clear ty hk1 hk2
            cases kk with
            | non => exact iteF ⟨_, rfl, _, _, _, _, false, rfl, .ty "int", .base .non, kit_ty (by decide +kernel), false, rfl, iteT (fin (fun i z => by cases z) _)⟩
            | str y => exact iteF ⟨_, rfl, _, _, _, _, false, rfl, .ty "int", .base (.str y), kit_ty (by decide +kernel), false, rfl, iteT (fin (fun i z => by cases z) _)⟩
            | lst e => exact iteF ⟨_, rfl, _, _, _, _, false, rfl, .ty "int", .base (.lst e), kit_ty (by decide +kernel), false, rfl, iteT (fin (fun i z => by cases z) _)⟩
            | tup e => exact iteF ⟨_, rfl, _, _, _, _, false, rfl, .ty "int", .base (.tup e), kit_ty (by decide +kernel), false, rfl, iteT (fin (fun i z => by cases z) _)⟩
            | bl y => cases y with
              | false => exact absurd rfl nfl
              | true => exact absurd rfl xt
            | int i =>
              refine iteF ⟨_, rfl, _, _, _, _, true, rfl, .ty "int", .base (.int i), kit_ty (by decide +kernel), true, rfl, iteF ⟨_, rfl, _, _, rfl, rfl, _, rfl, ite2 (fun h1 => ⟨_, rfl, th, _, rfl, .inr (SqT.of eth8), _, _, rfl, rfl, _, _, rfl, rfl, _, rfl, hR _ fun hb2 => hcb fun j e z => ?_⟩) fun h1 => ⟨_, rfl, hR _ fun hb2 => hcb fun j e z => ?_⟩⟩⟩
              · cases e
                rw [lq] at hb2
                simp only [Bool.not_eq_true', decide_eq_false_iff_not] at hb2
                exact hb2 z.2
              · cases e
                exact h1 (decide_eq_true z.1)
        · cases bb with
          | false => exact iteF (stop _ _ ⟨rfl, ExtN.refl _, T8⟩)
          | true =>
            have hbad := hbb rfl
            refine iteT ?_
            -- heard of a merge
            refine ⟨T8, fun H9 e9 T9 => ?_⟩
            have td9 := dp_ext (K := K) e9 td tr
            refine ⟨_, rfl, _, rfl, _, rfl, m, n, rows, .ref th, x, rfl, e9.mg (mgK K8), sq, .inl ⟨qq, ⟨th, rfl, .inr (e9.tup eth8), hq2, by omega⟩, td9.kd, fun i e can => ?_, fun _ HA d sA hd ed => ⟨d, x, rfl, ed, .inl ⟨rfl, dx, ?_, td9.cs, fun p hp => ?_⟩⟩⟩⟩
            · rw [e, canB_nat.mpr can] at hbad; cases hbad
            · exact (dp_ext (K := K) (e9.trans (ExtN.same sA)) td tr).dp
            · have sB := sA.trans (same_new (o := .tup [.str "refused", .str dx.shown]) hp)
              have tdB := dp_ext (K := K) (e9.trans (ExtN.same sB)) td tr
              have P1 : (upd HA p (.tup [.str "refused", .str dx.shown])) p = some (.tup [.str "refused", .str dx.shown]) := upd_same
              generalize upd HA p (.tup [.str "refused", .str dx.shown]) = HB at sB tdB P1
              refine ⟨_, rfl, _, _, rfl, tdB.dp, tdB.cs.sh, tdB.cs.nd, tdB.cs.dp, tdB.cs.sz, by show 2 ≤ sizeLine; decide, fun p2 hp2 => ne_ss (same_new hp2 _ _ P1) upd_same (by decide +kernel) td.ok ⟨_, rfl, iteF ?_⟩⟩
              have sC := sB.trans (same_new (o := .tup [.str "refused", .str dx.shown]) hp2)
              have TC := Tabs_same T9 sC
              have eC := e9.trans (ExtN.same sC)
              generalize upd HB p2 (.tup [.str "refused", .str dx.shown]) = HC at sC TC eC
              -- heard of a way
              refine ⟨TC, fun HD eD TD => ?_⟩
              have eD := eC.trans eD
              have tdD := dp_ext (K := K) eD td tr
              refine ⟨_, rfl, _, rfl, _, rfl, _, rfl, by show 2 ≤ sizeLine; decide, fun l1 hl1 => ⟨_, _, _, _, rfl, rfl, same_new hl1 _ _ (eD.lst elw8), upd_same, by rw [nV_len]; show _ + 2 ≤ 16777216; omega, fun l2 hl2 => ?_⟩⟩
              have sE : Same HD (upd (upd HD l1 (.lst [x, V.non])) l2 (.lst (nV w ++ [x, V.non]))) := (same_new hl1).new hl2
              have LE : (upd (upd HD l1 (.lst [x, V.non])) l2 (.lst (nV w ++ [x, V.non]))) l2 = some (.lst (nV w ++ [x, V.non])) := upd_same
              generalize upd (upd HD l1 (.lst [x, V.non])) l2 (.lst (nV w ++ [x, V.non])) = HE at sE LE
              have eE := eD.trans (ExtN.same sE)
              have TE := Tabs_same TD sE
              have tdE := dp_ext (K := K) eE td tr
              refine ⟨m, n, rows, .ref t, .ref l2, rfl, eE.mg (mgK K8), sq, .inl ⟨q, ⟨t, rfl, .inr (eE.tup (tK K8)), hq, by omega⟩, .lst LE, .inr ⟨l2, w, [x, V.non], rfl, .inl LE, fun y hy => ?_, hw, fun e => (by cases e), fun y ys e => ?_⟩⟩⟩
              · simp only [List.mem_cons, List.not_mem_nil, or_false] at hy
                rcases hy with rfl | rfl
                · exact tdE.kd
                · exact .non
              · cases e
                refine ⟨by rw [← eqq]; exact hbad, fun HF d sF hd ed => ⟨d, _, rfl, ed, .inr (.inl ⟨rfl, fun p hp => ?_⟩)⟩⟩
                have sG := sF.trans (same_new (o := .tup [.str "way", .int (w.length : Nat)]) hp)
                have P1 : (upd HF p (.tup [.str "way", .int (w.length : Nat)])) p = some (.tup [.str "way", .int (w.length : Nat)]) := upd_same
                generalize upd HF p (.tup [.str "way", .int (w.length : Nat)]) = HG at sG P1
                have eG := eE.trans (ExtN.same sG)
                refine ⟨_, rfl, lw, _, rfl, .inl (SqL.of (eG.lst elw8)), by show 2 ≤ sizeLine; decide, fun p2 hp2 => ?_⟩
                rw [nV_len]
                refine ne_si (same_new hp2 _ _ P1) upd_same (by decide +kernel) ⟨_, rfl, iteF (stop _ _ ⟨rfl, eG.trans (ExtN.same (same_new hp2)), Tabs_same TE (sG.trans (same_new hp2))⟩)⟩
      · rintro σ' HA ⟨rfl, eA, TA⟩
        have ethA := eA.tup eth8
        have bA := eA.bx b8
        have hLA := eA.rl (rlK K8)
        have knA := (KN.of K8).trans (KN.ofE (b := b) eA)
        -- the stuck
        refine ⟨_, rfl, th, _, rfl, .inr (SqT.of ethA), _, _, rfl, rfl, _, rfl, by rw [lq]; omega, by rw [lq]; omega, fun dd hdd => ?_⟩
        refine lc_places (n := (((iV qq).length : Nat) - 1 : Int).toNat) (P := fun p => !(nb rows qq p).isSome) hdd (by rw [lq]; omega) (fun i H Q q => q) (fun i => rfl) (fun j H3 R2 hj S3 hR => ?_) (fun i H Q q => ⟨_, rfl, q⟩) fun HB ps sB eB lB hB => ?_
        · rw [lq] at hj
          have hj2 : j + 1 < qq.length := by omega
          have hj1 : j < qq.length := by omega
          have hL3 := hLA.same S3
          have eth3 := S3 _ _ ethA
          obtain ⟨pa, wa, f1, f2, f3, _⟩ := hL3.get sq (hq2.getD hj1) (hq2.getD hj2)
          have i1 : atI (iV qq) (0 + (j : Nat)) = some (.int (qq.getD j 0)) := by rw [Int.zero_add]; exact iV_at hj1
          have i2 : atI (iV qq) (0 + (j : Nat) + 1) = some (.int (qq.getD (j + 1) 0)) := by rw [Int.zero_add]; exact iV_at hj2
          refine ⟨_, rfl, _, rfl, _, rfl, th, _, _, _, rfl, rfl, SqT.of eth3, i1, r, _, _, _, rfl, rfl, SqL.of hL3.1, f1, _, rfl, _, rfl, _, _, rfl, rfl, th, _, _, _, rfl, rfl, SqT.of eth3, i2, pa, _, _, _, rfl, rfl, SqL.of f2, f3, rfl, _, rfl, ?_⟩
          have e : (decide (eV (rows.at (qq.getD j 0) (qq.getD (j + 1) 0)) = V.non)) = !(nb rows qq j).isSome := by
            rw [eV_non]
            unfold nb
            cases rows.at (qq.getD j 0) (qq.getD (j + 1) 0) <;> rfl
          rw [e]
          exact hR
        · have eB1 := eB
          rw [nV_iV] at eB1
          refine ⟨_, rfl, Nat.zero_le _, fun p0 hp0 => eq_nil_ (q := ps.map fun i => ((i : Nat) : Int)) (same_new hp0 _ _ eB1) upd_same ⟨_, rfl, ?_⟩⟩
          have sC := sB.trans (same_new (o := .lst []) hp0)
          have eC := same_new (o := .lst []) hp0 _ _ eB
          have TC := Tabs_same TA sC
          generalize upd HB p0 (.lst []) = HC at sC eC TC
          have eAC := eA.trans (ExtN.same sC)
          cases ps with
          | nil => exact iteT (k _ ((KN.of K8).trans (KN.ofE eAC)) (eAC.bx b8) TC)
          | cons p ps =>
            refine iteF ?_
            refine ⟨TC, fun HD eD TD => ?_⟩
            have eC2 := eD.lst eC
            have eD := eAC.trans eD
            have hp := hB p List.mem_cons_self
            have td : ∀ {Hx : Hp}, Told K Hx (.int (p : Nat)) (.int (p : Nat)) := fun {_} => told_nat (by have := hp.1; rw [lq] at this; omega)
            have nc : canB rows qq (.int (p : Nat)) = false := by
              cases hc : canB rows qq (.int (p : Nat)) with
              | false => rfl
              | true =>
                have := (canB_nat.mp hc).2
                have h2 := hp.2
                cases hn : nb rows qq p with
                | none => exact absurd hn this
                | some e => rw [hn] at h2; cases h2
            refine ⟨_, rfl, _, rfl, _, rfl, dd, _, _, _, rfl, rfl, SqL.of eC2, atI_of (v := .int (p : Nat)) (Int.le_refl 0) rfl, m, n, rows, .ref th, .int (p : Nat), rfl, eD.mg (mgK K8), sq, .inl ⟨qq, ⟨th, rfl, .inr (eD.tup eth8), hq2, by omega⟩, .int _, fun i e can => ?_, fun _ HE d sE hd ed => ⟨d, _, rfl, ed, .inl ⟨rfl, _, (td (Hx := HE)).dp, (td (Hx := HE)).cs, fun p1 hp1 => ?_⟩⟩⟩⟩
            · rw [e, canB_nat.mpr can] at nc; cases nc
            · have sF := sE.trans (same_new (o := .tup [.str "refused", .str (PyData.int (p : Nat)).shown]) hp1)
              have P1 : (upd HE p1 (.tup [.str "refused", .str (PyData.int (p : Nat)).shown])) p1 = some (.tup [.str "refused", .str (PyData.int (p : Nat)).shown]) := upd_same
              generalize upd HE p1 (.tup [.str "refused", .str (PyData.int (p : Nat)).shown]) = HF at sF P1
              refine ⟨_, rfl, dd, _, _, _, rfl, rfl, SqL.of (sF _ _ eC2), atI_of (v := .int (p : Nat)) (Int.le_refl 0) rfl, _, _, rfl, (td (Hx := HF)).dp, (td (Hx := HF)).cs.sh, (td (Hx := HF)).cs.nd, (td (Hx := HF)).cs.dp, (td (Hx := HF)).cs.sz, by show 2 ≤ sizeLine; decide, fun p2 hp2 => eq_ss (same_new hp2 _ _ P1) upd_same (by decide +kernel) (td (Hx := HF)).ok ?_⟩
              have sG := sF.trans (same_new (o := .tup [.str "refused", .str (PyData.int (p : Nat)).shown]) hp2)
              have eG := eD.trans (ExtN.same sG)
              exact k _ ((KN.of K8).trans (KN.ofE eG)) (eG.bx b8) (Tabs_same TD sG)
end
end K7
end

section
-- K7Lam
set_option Elab.async false
set_option linter.all false
set_option maxRecDepth 100000
set_option maxHeartbeats 4000000
/-! lambdas that are kept in a list, and what is heard of them in a block. -/
namespace K7
open PySem PySem.Spec PyProof.Rows L2 LamX
/-- a lambda's function object stands at f -/
def LamO (f : Addr) (q : Str) (params : Arguments) (body : Expr) (scope : Scope) (cl : List (Str × Addr)) (c' : Addr) : HO := .ext fun h => ∃ pm ctv : Value, h.get? f = some (PySem.W.kla_obj "<lambda>" q params body scope cl pm c' ctv)
theorem lamO_ne {f : Addr} {q : Str} {params : Arguments} {body : Expr} {scope : Scope} {cl : List (Str × Addr)} {c' : Addr} (ps : Array Value) : LamO f q params body scope cl c' ≠ .tbl ps := fun z => by
  unfold LamO at z
  cases z
/-- a lambda as a value -/
theorem pe_lamV {X : Cx} {T : List (Addr × Str)} {c P : Addr} {params : Arguments} {body : Expr} {scope : Scope} {pos : Pos} (TB : TabB X.base X.mg c P) (hcode : X.env.code = .ref c)
    (hm : (P, X.env.qual ++ "<lambda>") ∈ T) (hu : ∀ p ∈ T, p.1 = P → p.2 = X.env.qual ++ "<lambda>") (L : LamS X.env.scope scope) (hdef : defaultsOf params X.env = ([], [])) :
    PE X (.Lambda params body scope pos) (fun σ H Q => LamX.Tabs T H ∧ ∀ f c' H1, ExtN H H1 → LamX.Tabs T H1 → H f = none → H1 f = some (LamO f (X.env.qual ++ "<lambda>") params body scope (cloFrom X.env.cells scope.names []) c') →
      H1 c' = some (CodeO c' (X.env.qual ++ "<lambda>")) → Q (.ref f) H1) := by
  refine ⟨fun pins s σ H Q I h => ?_⟩
  obtain ⟨hT, h⟩ := h
  have hfree := L.has I.ok
  obtain ⟨ps, hP, ht, ha⟩ := hT _ hm
  refine PySem.W.kla_eval hdef ?_
  have bP : s.heap.BuiltinsAt X.mg P := TB.bm.keeps I.bk
  have hP' : s.heap.get? P = some { cls := .none, data := .fields ps } := I.hok P _ hP
  cases hc : codeAmong pos ps.toList with
  | none =>
    refine PySem.W.kla_makeFunction (mg := X.mg) (c := c) (P := P) (ps := ps) (closure_ok hfree) I.ok.glob (I.mod.glob.keeps I.bk) hcode (TB.code.keeps I.bk) hP' ht hc TB.gP bP fun c' ctv h' tk hx hge hlt hrec htb => ?_
    obtain ⟨c2, oc, vs, t, e2, hoc, hd, hv⟩ := hrec
    cases e2
    have hsz : s.heap.objs.size ≤ h'.objs.size := Nat.le_trans hge (Nat.le_of_lt hlt)
    have nC : H c' = none := I.hok.fresh hge
    have nF : H h'.objs.size = none := I.hok.fresh hsz
    have I1 := inv_table (t' := tk) (more := #[rawInt pos.line, rawInt pos.col, .ref c']) (h' := h') I hP (fun b o hb e => hx b o hb e) htb hge ⟨oc, vs, t, hoc, hd, hv⟩
    have I2 := I1.laid (a := h'.objs.size) (o := LamO h'.objs.size (X.env.qual ++ "<lambda>") params body scope (cloFrom X.env.cells scope.names []) c') (h' := h'.push (PySem.W.kla_obj "<lambda>" (X.env.qual ++ "<lambda>") params body scope (cloFrom X.env.cells scope.names []) ((X.mg "__name__").getD .none) c' ctv)) (t' := tk)
      (fun b u e => Heap.get?_push_of_some _ e) (Nat.le_refl _) ⟨⟨_, _, Heap.get?_push_size _ rfl⟩, ⟨_, Heap.get?_push_size _ rfl⟩, fun h1 h2 ⟨pm, ctv, e⟩ st => ⟨pm, ctv, st _ e⟩⟩
    have hE : ExtN H (upd (upd H P (.tbl (ps ++ #[rawInt pos.line, rawInt pos.col, .ref c']))) c' (CodeO c' (X.env.qual ++ "<lambda>"))) := fun b o e n => by
      rw [upd_ne (ne_of_none e nC), upd_ne (fun z => n ps (Option.some.inj (e.symm.trans (by rw [z]; exact hP))))]
      exact e
    have n1 : h'.objs.size ≠ c' := Nat.ne_of_gt hlt
    have n2 : h'.objs.size ≠ P := Nat.ne_of_gt (Nat.lt_of_lt_of_le (Heap.lt_size hP') hsz)
    have nF1 : (upd (upd H P (.tbl (ps ++ #[rawInt pos.line, rawInt pos.col, .ref c']))) c' (CodeO c' (X.env.qual ++ "<lambda>"))) h'.objs.size = none := by rw [upd_ne n1, upd_ne n2]; exact nF
    have S12 := same_new (o := LamO h'.objs.size (X.env.qual ++ "<lambda>") params body scope (cloFrom X.env.cells scope.names []) c') nF1
    have eL : (ps ++ #[rawInt pos.line, rawInt pos.col, .ref c']).toList = ps.toList ++ [rawInt pos.line, rawInt pos.col, .ref c'] := by simp
    have T1 : LamX.Tabs T (upd (upd H P (.tbl (ps ++ #[rawInt pos.line, rawInt pos.col, .ref c']))) c' (CodeO c' (X.env.qual ++ "<lambda>"))) := fun p hp => by
      by_cases hb : p.1 = P
      · rw [hu p hp hb, hb]
        refine ⟨_, by rw [upd_ne (ne_of_none hP nC), upd_same], by rw [eL]; exact PySem.TriplesOk_snoc _ _ _ _ ht, fun p' cv hcv => ?_⟩
        rw [eL] at hcv
        rcases among_app _ ht hcv with z | z
        · obtain ⟨c0, e1, e2⟩ := ha p' cv z
          exact ⟨c0, e1, hE _ _ e2 codeO_ne⟩
        · exact ⟨c', z, upd_same⟩
      · obtain ⟨ps', a1, a2, a3⟩ := hT p hp
        refine ⟨ps', by rw [upd_ne (ne_of_none a1 nC), upd_ne hb]; exact a1, a2, fun p' cv hcv => ?_⟩
        obtain ⟨c0, e1, e2⟩ := a3 p' cv hcv
        exact ⟨c0, e1, hE _ _ e2 codeO_ne⟩
    exact ⟨.ref h'.objs.size, _, I2, rfl, h _ c' _ (hE.trans (ExtN.same S12)) (T1.ext S12) nF upd_same (S12 _ _ upd_same)⟩
  | some cv =>
    obtain ⟨c', e, hco⟩ := ha pos cv hc
    subst e
    refine PySem.W.kla_makeFunctionHit (mg := X.mg) (c := c) (P := P) (ps := ps) (closure_ok hfree) I.ok.glob (I.mod.glob.keeps I.bk) hcode (TB.code.keeps I.bk) hP' ht hc bP fun ctv h' tk hx hsz => ?_
    have nF : H h'.objs.size = none := I.hok.fresh hsz
    have I2 : Inv X pins σ (upd H h'.objs.size (LamO h'.objs.size (X.env.qual ++ "<lambda>") params body scope (cloFrom X.env.cells scope.names []) c')) { s with heap := h'.push (PySem.W.kla_obj "<lambda>" (X.env.qual ++ "<lambda>") params body scope (cloFrom X.env.cells scope.names []) ((X.mg "__name__").getD .none) c' ctv), toks := tk } :=
      I.laid (fun b u e => Heap.get?_push_of_some _ (hx b u e)) hsz ⟨⟨_, _, Heap.get?_push_size _ rfl⟩, ⟨_, Heap.get?_push_size _ rfl⟩, fun h1 h2 ⟨pm, ctv, e⟩ st => ⟨pm, ctv, st _ e⟩⟩
    have S12 := same_new (o := LamO h'.objs.size (X.env.qual ++ "<lambda>") params body scope (cloFrom X.env.cells scope.names []) c') nF
    exact ⟨.ref h'.objs.size, _, I2, rfl, h _ c' _ (ExtN.same S12) (hT.ext S12) nF upd_same (S12 _ _ hco)⟩
/-! ### a comprehension whose block knows its maker's frame -/
structure LcAt (X : Cx) (σ : L2.St) (s : Shared) (H : Hp) (fp : List Addr) : Prop where
  ex : ∃ pins, Inv X pins σ H s ∧ ∀ b ∈ fp, FpOk X pins H b
section
variable {X : Cx}
theorem lc_coreI {pins : List (Addr × Obj)} {s : Shared} {σ : L2.St} {H : Hp} {Q : VK} {elt tg iter : Expr} {ifs : List Expr} {scope : Scope} {own : List (Str × Nat)} {pos pos' : Pos} {wi : TI} {g : TG} {tt : TT} {te : TE} {use : Option (Value → Sem Unit)} {Qf : Value → Shared → Prop}
    (hc : X.calm = true) (hN : X.N.Nodup) (I : Inv X pins σ H s) (hi : PI X tg iter wi) (ok : BlkOk X.N X.env.scope scope own)
    (hg : ∀ (s : Shared) (H : Hp) (C : Addr) (cl : List (Str × Addr)) (fp : List Addr), PG (X.blk s H scope (compEnvC scope cl C X.env) fp) tg g) (ht : ∀ (s : Shared) (H : Hp) (C : Addr) (cl : List (Str × Addr)) (fp : List Addr), LcAt X σ s H fp → PTs (X.blk s H scope (compEnvC scope cl C X.env) fp) ifs tt)
    (he : ∀ (s : Shared) (H : Hp) (C : Addr) (cl : List (Str × Addr)) (fp : List Addr), PE (X.blk s H scope (compEnvC scope cl C X.env) fp) elt te) (hs : ∀ x, foldedSetIterable iter X.env x = pure x)
    (h : tLc wi g tt te (own.map (·.2)) σ H Q)
    (hRR : ∀ D C s' m H', Inv X pins σ H' s' → Q (.ref D) H' → s'.heap.Ns C m → FpOk X pins H' C → compPost (model X.prog X.w) X.A X.xe use Qf (.ref D) C (.ok .next) s') :
    wpAny (model X.prog X.w) X.A (comprehension (.ListComp elt [⟨tg, iter, ifs, 0⟩] scope pos) scope X.env pos' (newList []) false (eval iter X.env) use) Qf X.xe s := by
  have hfree : ∀ y ∈ scope.names, y.2 = .free → ∃ c, X.env.cells.lookup y.1 = some c := fun y hy e => by
    rcases ok.free y hy e with k | k
    · exact I.ok.has _ (.inl k)
    · exact I.ok.has _ (.inr k)
  refine wpAny_comprehension_free (use := use) rfl hs (closure_ok hfree) ok.kind (fun y hy e => by rw [ok.uniq y hy, e])
    (L2.thn (hi.run pins s σ H _ I h) fun xv s1 hx => L2.thn hx fun itv s2 h2 => ?_)
  obtain ⟨it, fp, tn, J, H2, e, I2, T, st2, f2, q⟩ := h2
  subst e
  refine wpAny_newObj_type (newEnv_comp ?_) (by show 0 ≤ sizeLine; decide)
  generalize hD : s2.heap.objs.size = D
  have hDn : H2 D = none := I2.hok.fresh (Nat.le_of_eq hD)
  obtain ⟨W, ⟨m0, w0⟩, turn⟩ := q D hDn
  generalize hs3 : ({ s2 with heap := s2.heap.push { cls := .type "list", data := .seq ([] : List Value).toArray } } : Shared) = s3
  have I3 : Inv X pins σ (upd H2 D (.lst [])) s3 := by
    rw [← hs3]
    refine I2.laid (t' := s2.toks) (fun b o e => Heap.get?_push_of_some _ e) (Nat.le_of_eq hD) ⟨Nat.zero_le _, [], 0, .nil, ?_⟩
    rw [← hD]
    exact Heap.get?_push_size _ rfl
  have h3 : s3.heap = s2.heap.push { cls := .type "list", data := .seq ([] : List Value).toArray } := by rw [← hs3]
  have sz : ∀ b ∈ fp, b < s2.heap.objs.size := fun b hb => by
    obtain ⟨o, e, _⟩ := T.obj _ _ st2 b hb
    exact Heap.lt_size e
  have f3 : ∀ b ∈ fp, FpOk X pins (upd H2 D (.lst [])) b ∧ b < s3.heap.objs.size := fun b hb => by
    have hlt := sz b hb
    refine ⟨⟨?_, (f2 b hb).2⟩, by rw [h3, Heap.size_push]; exact Nat.lt_succ_of_lt hlt⟩
    rw [upd_ne (by rw [← hD]; exact Nat.ne_of_lt hlt)]
    exact (f2 b hb).1
  have st3 : tn 0 s3.heap := T.keep _ _ _ st2 fun b _ o e => by rw [h3]; exact Heap.get?_push_of_some _ e
  have I4 := block_start I3 ok hN f3
  have pg := hg s3 (upd H2 D (.lst [])) s3.heap.objs.size (cellsFrom (s3.heap.objs.size + 1) scope.names (cloFrom X.env.cells scope.names [])) fp
  have pt := ht s3 (upd H2 D (.lst [])) s3.heap.objs.size (cellsFrom (s3.heap.objs.size + 1) scope.names (cloFrom X.env.cells scope.names [])) fp ⟨pins, I3, fun b hb => (f3 b hb).1⟩
  have pe := he s3 (upd H2 D (.lst [])) s3.heap.objs.size (cellsFrom (s3.heap.objs.size + 1) scope.names (cloFrom X.env.cells scope.names [])) fp
  show codeAny _ _ (.compStart (.ListComp elt [⟨tg, iter, ifs, 0⟩] scope pos) 0 (.ref it) (.ref D) (compEnvC scope (cellsFrom (s3.heap.objs.size + 1) scope.names (cloFrom X.env.cells scope.names [])) s3.heap.objs.size X.env)) (compPost (model X.prog X.w) X.A X.xe use Qf (.ref D) s3.heap.objs.size) { s3 with heap := pushCells (s3.heap.push { cls := .type "dict", data := .dict #[] }) scope.names }
  have nfp : ∀ b ∈ fp, (upd H2 D (.lst [])) b = none := fun b hb => (f3 b hb).1.1
  generalize hce : compEnvC scope (cellsFrom (s3.heap.objs.size + 1) scope.names (cloFrom X.env.cells scope.names [])) s3.heap.objs.size X.env = ce at I4 pg pt pe ⊢
  have cL : ce.locals = s3.heap.objs.size := by subst hce; rfl
  generalize hH3 : upd H2 D (.lst []) = H3 at I3 I4 pg pt pe w0 nfp f3
  generalize hs4 : ({ s3 with heap := pushCells (s3.heap.push { cls := .type "dict", data := .dict #[] }) scope.names } : Shared) = s4 at I4 ⊢
  have st4 : tn 0 s4.heap := T.keep _ _ _ st3 fun b _ o e => by rw [← hs4]; exact pushCells_keeps _ _ _ _ (Heap.get?_push_of_some _ e)
  have stat : ∀ {σ' : L2.St} {H' : Hp} {s' : Shared}, Inv (X.blk s3 H3 scope ce fp) [] σ' H' s' → (∀ b ∈ fp, H' b = none) → ∀ b ∈ fp, FpOk (X.blk s3 H3 scope ce fp) [] H' b := fun {σ' H' s'} I' hn b hb =>
    ⟨hn b hb, (I'.ok.exf b hb).1, I'.ok.exfs b hb, .inl hb, fun x c e => (I'.ok.exf b hb).2 x c e, fun p hp => absurd (show p ∈ ([] : List (Addr × Obj)) ++ [] from hp) (by simp)⟩
  have loop : codeAny (model X.prog X.w) X.A (.compLoop (.ListComp elt [⟨tg, iter, ifs, 0⟩] scope pos) 0 (.ref it) (.ref D) ce) (compPost (model X.prog X.w) X.A X.xe use Qf (.ref D) s3.heap.objs.size) s4 := by
    refine compLoop_any (fun n s' => ∃ i H', Inv (X.blk s3 H3 scope ce fp) [] (wipe σ (own.map (·.2))) H' s' ∧ tn i s'.heap ∧ (∀ b ∈ fp, H' b = none) ∧ W i n H') ?_ m0 ⟨0, H3, I4, st4, nfp, w0⟩
    rintro n s5 ⟨i, H5, I5, st5, n5, w5⟩
    rcases turn i n H5 w5 with ⟨stop, qq⟩ | ⟨go, Nx, hNx, step⟩
    · have td := T.done (X.blk s3 H3 scope ce fp) rfl rfl rfl hc i [] s5 _ H5 (fun _ _ => False) I5 (stat I5 n5) st5 stop
      refine thnF td fun r s6 ⟨hr, I6⟩ => ?_
      subst hr
      have I7 : Inv X pins σ H5 s6 := I3.call' (ch := fp) I6.os I6.base I6.hok I6.bare fun b hb => ⟨(f3 b hb).1.2.2.2.1, (f3 b hb).1.2.1, (f3 b hb).1.2.2.2.2.1, (f3 b hb).1.2.2.2.2.2⟩
      have nC : H5 s3.heap.objs.size = none := by
        have z : H5 ce.locals = none := I6.free
        rw [cL] at z
        exact z
      obtain ⟨m, hn, _⟩ := I6.loc
      have hn : s6.heap.Ns ce.locals m := hn
      rw [cL] at hn
      exact hRR D s3.heap.objs.size s6 m H5 I7 qq hn (I3.fpOk (Nat.le_refl _) nC)
    · have ti := T.item (X.blk s3 H3 scope ce fp) rfl rfl rfl hc i [] s5 _ H5 (fun _ _ => False) I5 (stat I5 n5) st5 go
      refine thnF ti fun r s6 ⟨u, hr, h6⟩ => ?_
      subst hr
      refine thnF h6 fun _ s7 ⟨x, H7, I7, r7, y7, st7, n7⟩ => ?_
      have I7' := I7.pinned (stat I7 n7) (T.obj _ _ st7)
      refine thnF (pg.run _ s7 _ H7 x u _ I7' r7 (step x H7 y7)) fun _ s8 ⟨σ8, H8, I8, hw8, q8⟩ => ?_
      refine thnF (pt.run _ s8 σ8 H8 _ I8 q8) fun b s9 ⟨H9, I9, q9⟩ => ?_
      have fin : ∀ {s' : Shared} {H' : Hp}, Inv (X.blk s3 H3 scope ce fp) ([] ++ pinsAt fp s7.heap) σ8 H' s' → Nx H' → ∃ m, m < n ∧ ∃ i H', Inv (X.blk s3 H3 scope ce fp) [] (wipe σ (own.map (·.2))) H' s' ∧ tn i s'.heap ∧ (∀ b ∈ fp, H' b = none) ∧ W i m H' := fun {s' H'} I' nx => by
        obtain ⟨m', hm, w'⟩ := hNx H' nx
        have pin' : ∀ b ∈ fp, ∀ o, s7.heap.get? b = some o → s'.heap.get? b = some o ∧ H' b = none := fun b hb o e =>
          let z := I'.pin (b, o) (List.mem_append_right _ (List.mem_append_right _ (mem_pinsAt hb e)))
          ⟨z.1, z.2.1⟩
        have hl : (wipe σ (own.map (·.2))).length = σ8.length := by rw [← hw8, wipe_length]
        refine ⟨m', hm, i + 1, H', (I'.unpinned (pins := [])).weak hl (fun j v e => ?_), T.keep _ _ _ st7 fun b hb o e => (pin' b hb o e).1, fun b hb => ?_, w'⟩
        · rw [← hw8] at e
          exact (wipe_some e).1
        · obtain ⟨o, e, _⟩ := T.obj _ _ st7 b hb
          exact (pin' b hb o e).2
      cases b with
      | false =>
        simp only [Bool.false_eq_true, if_false] at q9 ⊢
        exact fin I9 q9
      | true =>
        simp only [if_true] at q9 ⊢
        refine thnF (pe.run _ s9 σ8 H9 _ I9 q9) fun z s10 ⟨yv, H10, I10, r10, acc, hD10, hz10, nx⟩ => ?_
        exact app_ok (X := X.blk s3 H3 scope ce fp) I10 hD10 hz10 r10 fun s11 I11 => fin I11 nx
  exact codeAny_compStart_list loop (T.self X.A 0 _ _ _ st4 loop)
theorem pe_lcI {elt tg iter : Expr} {ifs : List Expr} {scope : Scope} {own : List (Str × Nat)} {pos : Pos} {wi : TI} {g : TG} {tt : L2.St → TT} {te : TE} (hc : X.calm = true) (hN : X.N.Nodup) (hi : PI X tg iter wi) (ok : BlkOk X.N X.env.scope scope own)
    (hg : ∀ (s : Shared) (H : Hp) (C : Addr) (cl : List (Str × Addr)) (fp : List Addr), PG (X.blk s H scope (compEnvC scope cl C X.env) fp) tg g) (ht : ∀ (σ : L2.St) (s : Shared) (H : Hp) (C : Addr) (cl : List (Str × Addr)) (fp : List Addr), LcAt X σ s H fp → PTs (X.blk s H scope (compEnvC scope cl C X.env) fp) ifs (tt σ))
    (he : ∀ (s : Shared) (H : Hp) (C : Addr) (cl : List (Str × Addr)) (fp : List Addr), PE (X.blk s H scope (compEnvC scope cl C X.env) fp) elt te) (hs : ∀ x, foldedSetIterable iter X.env x = pure x := by intro _; rfl) :
    PE X (.ListComp elt [⟨tg, iter, ifs, 0⟩] scope pos) (fun σ => tLc wi g (tt σ) te (own.map (·.2)) σ) := by
  refine ⟨fun pins s σ H Q I h => ?_⟩
  rw [eval_ListComp]
  refine lc_coreI hc hN I hi ok hg (ht σ) he hs h fun D C s' m H' I' q hn f => ⟨m, hn, fun h'' sb => ?_⟩
  obtain ⟨f0, f1, f2, f3, f4, f5⟩ := f
  exact ⟨.ref D, H', I'.turned (t' := s'.toks) (fun b o hb e => (sb.2 b hb).trans e) f0 f1 f3 f4 f5, rfl, q⟩
end
/-! ### the cells of a frame, seen from elsewhere -/
structure Snap (X : Cx) (scope : Scope) (σ : L2.St) (H : Hp) (h : Heap) : Prop where
  has : ∀ y ∈ scope.names, y.2 = .free → ∃ c, X.env.cells.lookup y.1 = some c
  inj : ∀ x y c, X.env.cells.lookup x = some c → X.env.cells.lookup y = some c → x = y
  loc : ∀ (i : Nat) (y : Str) (v : V), X.N[i]? = some y → σ[i]? = some (some v) → (y, NameKind.free) ∈ scope.names → ∃ u c, RelV v u ∧ X.env.cells.lookup y = some c ∧ h.IsCell c (some u)
  cell : ∀ y c, X.env.cells.lookup y = some c → ∃ v, h.IsCell c v
  freeC : ∀ y c, X.env.cells.lookup y = some c → H c = none
  len : σ.length = X.N.length
section
variable {X : Cx} {pins : List (Addr × Obj)} {σ : L2.St} {H HZ : Hp} {s s1 : Shared} {scope : Scope}
theorem Snap.of (I : Inv X pins σ H s) (L : LamS X.env.scope scope) : Snap X scope σ H s.heap := by
  refine ⟨L.has I.ok, I.ok.inj, fun i y v e1 e2 k => ?_, I.cell, I.freeC, I.len⟩
  obtain ⟨m, hn, hl⟩ := I.loc
  have hvis : Vis X.env.scope y := (L.free _ k rfl).elim (fun k => .inr (.inl k)) (fun k => .inr (.inr k))
  obtain ⟨w', r, q⟩ := hl i y v e1 e2 hvis
  rcases q with ⟨k', _⟩ | ⟨_, c3, e', z⟩
  · have k' : X.env.scope.names.lookup y = some .local := k'
    rcases L.free _ k rfl with k2 | k2 <;> rw [show X.env.scope.names.lookup y = _ from k2] at k' <;> cases k'
  · exact ⟨w', c3, r, e', z⟩
theorem Snap.un {fs ex : List Addr} {H' : Hp} {h h' : Heap} (S : Snap X scope σ H h) (u : Un fs ex H H' h h') (hex : ∀ y c, X.env.cells.lookup y = some c → c ∉ ex) : Snap X scope σ H' h' := by
  have ck : ∀ {y c v}, X.env.cells.lookup y = some c → h.IsCell c v → h'.IsCell c v := fun {y c v} e ⟨o, ho, hd⟩ => by
    obtain ⟨sl, q⟩ := u.any ho (S.freeC y c e) (hex y c e)
    exact ⟨_, q, hd⟩
  refine ⟨S.has, S.inj, fun i y v e1 e2 k => ?_, fun y c e => ?_, fun y c e => ?_, S.len⟩
  · obtain ⟨w', c, r, e, z⟩ := S.loc i y v e1 e2 k
    exact ⟨w', c, r, e, ck e z⟩
  · obtain ⟨v, z⟩ := S.cell y c e
    exact ⟨v, ck e z⟩
  · obtain ⟨v, o, ho, hd⟩ := S.cell y c e
    exact u.free c o ho (S.freeC y c e) (hex y c e)
theorem lam_start3 {A : Around} {outer : List Env} {E : XK} {f c' : Addr} {h₁ : Heap} {tk : Nat} (S : Snap X scope σ HZ s1.heap) (L : LamS X.env.scope scope) (e0 : Env0 X.prog X.w X.K X.mg X.base A outer s1 HZ) (hd : A.handled = none)
    (hns : h₁.Ns s1.heap.objs.size fun y => ([] : List (Str × Value)).reverse.lookup y) (kp : ∀ b o, s1.heap.get? b = some o → h₁.get? b = some o) :
    Inv (lamCx X A outer s1 HZ E scope f c') [] σ HZ { s1 with heap := h₁, toks := tk } := by
  have hfree := S.has
  have cm : ∀ {y c}, (cloFrom X.env.cells scope.names []).lookup y = some c → X.env.cells.lookup y = some c := fun {y c} e => by
    rcases cloFrom_mem (PySem.mem_of_lookup e) with hm | ⟨h1, h2⟩
    · cases hm
    · obtain ⟨c1, hc⟩ := hfree _ h1 rfl
      have hc : X.env.cells.lookup y = some c1 := hc
      have e2 : c = c1 := by
        rw [h2, hc] <;> rfl
      rw [e2]
      exact hc
  have look : ∀ {y}, scope.names.lookup y = some .free → ∃ c, (cloFrom X.env.cells scope.names []).lookup y = some c := fun {y} hl => by
    have hy : (y, NameKind.free) ∈ scope.names := PySem.mem_of_lookup hl
    exact mem_lookup (cloFrom_has (cells := X.env.cells) (acc := []) hy)
  have cellK : ∀ {c : Addr} {v : Option Value}, s1.heap.IsCell c v → h₁.IsCell c v := fun {c v} ⟨o, ho, hd⟩ => ⟨_, kp _ _ ho, hd⟩
  have noA : ∀ b : Addr, b ∉ (lamCx X A outer s1 HZ E scope f c').ex := fun b z => absurd (show b ∈ ([] : List Addr) from z) (by simp)
  refine ⟨⟨e0.mod, L.kind, rfl, rfl, Nat.le_refl _, fun y z c e1 e2 => S.inj y z c (cm e1) (cm e2), fun y hy => ?_, fun y c z _ => ?_, fun _ => hd, Around.frames_deeper e0.frames, .inr ⟨rfl, rfl⟩, fun b z => absurd z (noA b), e0.bs, e0.bsz, fun b _ _ => noA b,
      fun b z => absurd z (noA b), e0.funs, e0.frf⟩,
    rfl, e0.bare, Un.kept kp, ⟨_, hns, fun i y v e1 e2 e3 => ?_⟩, fun y c e => ?_, e0.hok.fresh (Nat.le_refl _), fun y c e => ?_, fun q hq => absurd (show q ∈ ([] : List (Addr × Obj)) ++ [] from hq) (by simp), e0.hok.kept kp, S.len⟩
  · have hy : scope.names.lookup y = some .cell ∨ scope.names.lookup y = some .free := hy
    rcases hy with hy | hy
    · exact absurd rfl (L.own _ (PySem.mem_of_lookup hy)).2
    · exact look hy
  · have z : false = true := z
    cases z
  · have e3 : Vis scope y := e3
    rcases e3 with k | k | k
    · exact absurd rfl (L.own _ (PySem.mem_of_lookup k)).1
    · exact absurd rfl (L.own _ (PySem.mem_of_lookup k)).2
    · obtain ⟨w', c3, r, e', z⟩ := S.loc i y v e1 e2 (PySem.mem_of_lookup k)
      obtain ⟨c2, h2⟩ := look k
      refine ⟨w', r, .inr ⟨.inr k, c2, h2, ?_⟩⟩
      have c1 := cm h2
      rw [c1] at e'
      cases e'
      exact cellK z
  · obtain ⟨w', z⟩ := S.cell y c (cm e)
    exact ⟨w', cellK z⟩
  · exact S.freeC y c (cm e)
/-- x(), in the def that got the lambda -/
theorem pe_actT {CXg : CXT} {Eg : XK} {Ng : List Str} {qg q : Str} {sg : Scope} {g f c' : Addr} {cdg : Value} {params : Arguments} {body : Expr} {k i : Nat} {a : Str} {pn : List (Addr × Obj)} {xe : Value → Shared → Prop} {W : WX} {E : XK} {tb : TE} {p1 p2 : Pos}
    (Sn : Snap X scope σ H s.heap) (L : LamS X.env.scope scope) (hq : q = X.env.qual ++ "<lambda>")
    (hbind : ∀ (q : Str) (cl : List (Str × Addr)) (pm cv ctv : Value), bindArgs (PySem.W.kla_fn "<lambda>" q params body scope cl pm cv ctv) ⟨[], []⟩ = pure [])
    (tk : Takes ((cxOf CXg X.prog X.w X.K X.mg X.base Ng qg sg g cdg X.A X.stack s H Eg).tr pn xe) W) (hW : ∀ cls d σ' H', E cls d H' → W cls d σ' H') (hr : Room (k + 1) (X.A.deeper (envOfC qg sg s.heap.objs.size g cdg)))
    (hbody : ∀ (A : Around) (outer : List Env) (s : Shared) (H : Hp), Room k (A.deeper (lamEnv X scope s.heap.objs.size f c')) → PE (lamCx X A outer s H E scope f c') body tb)
    (hN : Ng[i]? = some a) (hv : Vis sg a) (hd : (a == ("__debug__" : Str)) = false := by decide) (hcd : (a == ("__classdict__" : Str)) = false := by decide) :
    PE ((cxOf CXg X.prog X.w X.K X.mg X.base Ng qg sg g cdg X.A X.stack s H Eg).tr pn xe) (.Call (.Name a p1) [] [] p2)
      (fun σZ HZ Q => σZ[i]? = some (some (.ref f)) ∧ HZ c' = some (CodeO c' q) ∧ HZ f = some (LamO f q params body scope (cloFrom X.env.cells scope.names []) c') ∧ tb σ HZ Q) := by
  subst hq
  refine ⟨fun pinsZ sZ σZ HZ Q IZ h => ?_⟩
  obtain ⟨hs, hc, hf, ht⟩ := h
  refine wpAny_Call_Name_kw (L2.thn ((pe_var (pos := p1) (i := i) hN hv hd hcd).run pinsZ sZ σZ HZ (fun v H1 => v = .ref f ∧ H1 = HZ) IZ ⟨.ref f, hs, rfl, rfl⟩) fun u s1 ⟨v, H1, I1, r1, q1⟩ => ?_)
  obtain ⟨ev, eH⟩ := q1
  subst ev
  rw [eH] at I1
  obtain rfl : u = Value.ref f := r1
  obtain ⟨⟨pm, ctv, of1⟩, _, _⟩ := I1.hok f _ hf
  refine PySem.W.callWith_F0 ⟨_, _, _, _, of1⟩ ?_
  have un : Un (frs X.stack) [] H HZ s.heap s1.heap := I1.base
  have Sn1 : Snap X scope σ HZ s1.heap := Sn.un un fun _ _ _ => by simp
  obtain ⟨⟨oc, vs, t, hoc, hdc, hvc⟩, _, _⟩ := I1.hok c' _ hc
  have rc : codeAny (model X.prog X.w) (X.A.deeper (envOfC qg sg s.heap.objs.size g cdg)) (.call (.ref f) ⟨[], []⟩) (CR (L2.CX X.prog X.w) (envOfC qg sg s.heap.objs.size g cdg :: X.stack) X.prog X.w HZ s1 Q E) s1 := by
    refine PySem.W.kla_callFunE hr.depth of1 rfl L.co L.gen rfl ⟨c', oc, vs, t, rfl, hoc, hdc, hvc⟩ ?_
    rw [hbind]
    refine wpAny_pure (wpAny_newFunctionEnv (fun y hy => (L.own y hy).2) (fun y hy => absurd hy (by simp)) (fun h₁ hns hsb => ⟨I1.nolimit.fresh _ hsb, ?_⟩) L.kind)
    show codeAny _ _ (.expr body (lamEnv X scope s1.heap.objs.size f c')) _ _
    have kp : ∀ b o, s1.heap.get? b = some o → h₁.get? b = some o := fun b o e => hsb.extBut b o (Nat.ne_of_lt (Heap.lt_size e)) (Heap.get?_push_of_some _ e)
    have J : Inv (lamCx X (X.A.deeper (envOfC qg sg s.heap.objs.size g cdg)) (envOfC qg sg s.heap.objs.size g cdg :: X.stack) s1 HZ E scope f c') [] σ HZ { s1 with heap := h₁, toks := s1.toks + ([] : List (Str × Value)).length } :=
      lam_start3 Sn1 L I1.env0 hr.hd hns kp
    refine PySem.W.kla_codeExpr (wpAny_mono ((hbody _ _ s1 HZ (hr.deeper _)).run [] _ _ HZ Q J ht) (fun v s' hq => ?_) fun e s' hq => hq)
    obtain ⟨w', H', J', rv, q⟩ := hq
    exact ⟨w', H', J'.os, J'.bare, J'.base, J'.hok, rv, q⟩
  have hx : Passes (L2.CX X.prog X.w) ((cxOf CXg X.prog X.w X.K X.mg X.base Ng qg sg g cdg X.A X.stack s H Eg).tr pn xe) E := passes_call tk hW
  refine wpAny_call (codeAny_mono rc fun r s' hq => ?_)
  cases r with
  | error e => exact hx pinsZ σZ HZ s1 e s' I1 hq
  | ok fl =>
    cases fl with
    | ret u => exact I1.after hq
    | next => exact False.elim hq
    | brk => exact False.elim hq
    | cont => exact False.elim hq
end
/-- what a call of a kept lambda is read as -/
def tLamK (K : PySem.W.Frag) (CR CW CQ : Addr) (j : Nat) (q : Str) (params : Arguments) (body : Expr) (scope : Scope) (cl : List (Str × Addr)) (σ0 : L2.St) (t : XK → TE) : TE := fun σ H Q => ∃ f c' : Addr, σ[j]? = some (some (.ref f)) ∧ H f = some (LamO f q params body scope cl c') ∧ H c' = some (CodeO c' q) ∧
  TTH K CR CW CQ (fun E H' Q' => H' f = some (LamO f q params body scope cl c') ∧ t E σ0 H' Q') H Q
/-- _law_heard(_law_ask), in a block of the frame of X -/
theorem pe_heardV {X : Cx} {C CT CR CW CQ CN : Addr} {k j : Nat} {y : Str} {params : Arguments} {body : Expr} {scope sB : Scope} {t : XK → TE} {p py pos : Pos} {σ0 : L2.St} {s3 : Shared} {H3 : Hp} {Cb : Addr} {clb : List (Str × Addr)} {fp : List Addr}
    (hP : X.prog = Pg) (D : DefAt X.K X.mg "_law_heard" sLHeard) (T : Txt X.K X.mg C) (Er : Errs X.K X.mg CT CR CW CQ CN) (hgd : X.A.guards = some []) (hr : Room (k + 2) X.A) (at_ : LcAt X σ0 s3 H3 fp) (L : LamS X.env.scope scope)
    (hg : Gl (X.blk s3 H3 sB (compEnvC sB clb Cb X.env) fp) "_law_heard") (hy : PE (X.blk s3 H3 sB (compEnvC sB clb Cb X.env) fp) (.Name y py) (tVar j))
    (hbind : ∀ (q : Str) (cl : List (Str × Addr)) (pm cv ctv : Value), bindArgs (PySem.W.kla_fn "<lambda>" q params body scope cl pm cv ctv) ⟨[], []⟩ = pure [])
    (hbody : ∀ (A : Around) (outer : List Env) (s : Shared) (H : Hp) (E : XK) (f c' : Addr), Room k (A.deeper (lamEnv X scope s.heap.objs.size f c')) → PE (lamCx X A outer s H E scope f c') body (t E)) :
    PE (X.blk s3 H3 sB (compEnvC sB clb Cb X.env) fp) (.Call (.Name "_law_heard" p) [.Name y py] [] pos) (tLamK X.K CR CW CQ j (X.env.qual ++ "<lambda>") params body scope (cloFrom X.env.cells scope.names []) σ0 t) := by
  obtain ⟨g, fd, hm, F⟩ := D
  have hbn := F.bindsN (ps := ["_law_ask"]) fun _ _ _ _ _ _ us hl => match us, hl with | [_], _ => rfl
  obtain ⟨oc, od, dV, kV, doc, pm, an, cdv, ct, osl, rfl, lk, hcd, _, _⟩ := F.ex
  refine ⟨fun pins s σ H Q I h => ?_⟩
  obtain ⟨f, c', h1, h2, h3, h4⟩ := h
  refine wpAny_Call_Name_kw (ld_glob I hg hm ?_ (by decide))
  refine PySem.W.callWith_K (h₀ := X.base) I.ok.mod.kin F.kp ?_ (by rfl) (by rfl)
  show wpAny _ _ (spliced ((false, eval (.Name y py) (compEnvC sB clb Cb X.env)) :: backTo pos (starEach [] (compEnvC sB clb Cb X.env)))) _ _ s
  refine Calls.spliced_cons (L2.thn (hy.run pins s σ H (fun v H1 => v = .ref f ∧ H1 = H) I ⟨.ref f, h1, rfl, rfl⟩) fun u s1 ⟨v, H1, I1, r1, q1⟩ => ?_)
  obtain ⟨ev, eH⟩ := q1
  subst ev
  rw [eH] at I1
  obtain rfl : u = Value.ref f := r1
  refine Calls.spliced_nil ⟨I1.kIn, ?_⟩
  obtain ⟨pins3, I3, hfp⟩ := at_.ex
  have Sn : Snap X scope σ0 H s1.heap := (Snap.of I3 L).un I1.base fun y c e hb => (hfp c hb).2.2.2.2.1 y c e rfl
  have rc : codeAny (model X.prog X.w) X.A (.call (.ref g) ⟨[.ref f], []⟩) (L2.CR C8.CX0 X.stack X.prog X.w H s1 Q C8.E0) s1 := by
    refine run_ofS (N := scHdN) (ps := ["_law_ask"]) (us := [.ref f]) (vs := [.ref f]) lk hcd scHd hr I1.env0 (hbn s1 [.ref f] I1.kIn rfl) (.cons rfl .nil) rfl fun hr' => ?_
    obtain ⟨t', ht', hq'⟩ := heard_gives (X := X) (k := k) hP T Er hgd (hr.mono (Nat.le_add_right k 2)) f c' s1 H Q (fun E H' Q' => H' f = some (LamO f (X.env.qual ++ "<lambda>") params body scope (cloFrom X.env.cells scope.names []) c') ∧ t E σ0 H' Q')
      (fun W pn xe E p1 p2 tk hW => pe_actT (i := 0) Sn L rfl hbind tk hW hr' (fun A outer s H hr2 => hbody A outer s H E f c' hr2) rfl (Or.inl rfl)) h3 h4
    exact ⟨t', ht'.nox, hq'⟩
  refine wpAny_call (codeAny_mono rc fun r s2 hq => ?_)
  cases r with
  | error e => exact (show False from hq).elim
  | ok fl =>
    cases fl with
    | ret u => exact I1.after hq
    | next => exact False.elim hq
    | brk => exact False.elim hq
    | cont => exact False.elim hq
theorem PE.or {X : Cx} {e : Expr} {t u : TE} (h : PE X e t) (g : PE X e u) : PE X e (fun σ H Q => t σ H Q ∨ u σ H Q) := ⟨fun pins s σ H Q I q => q.elim (fun q => h.run pins s σ H Q I q) fun q => g.run pins s σ H Q I q⟩
end K7
end

section
-- K7Law
set_option Elab.async false
set_option linter.all false
set_option maxRecDepth 100000
set_option maxHeartbeats 4000000
/-! the law itself. -/
namespace K7
open PySem PySem.Spec PyProof.Rows L2 LamX
/-! ### lambdas in the text -/
def lamE : Stmt → Expr
  | .Assign _ (.List [e] _) _ => e
  | .Expr (.Call _ [e] _ _) _ => e
  | _ => .Name "" ⟨0, 0, 0, 0⟩
def lamA : Expr → Arguments
  | .Lambda a _ _ _ => a
  | _ => defArgs sLaw
def lamB : Expr → Expr
  | .Lambda _ b _ _ => b
  | e => e
def lamC : Expr → Scope
  | .Lambda _ _ s _ => s
  | _ => defScope sLaw
abbrev lam (i : Nat) : Expr := lamE ((defBody sLaw).getD i (.Pass ⟨0, 0, 0, 0⟩))
/-! ### rules -/
theorem op_neDK (K : PySem.W.Frag) {X : Cx} (hu : X.A.units + 64 < cLine) (hK : X.K = K := by rfl) : OpR X (compareOp .NotEq) (rNeD K) := by subst hK; exact op_neD hu
theorem fnG {w : World} {K : PySem.W.Frag} {mg : Str → Option Value} {base : Heap} {x : Str} {st : Stmt} {N ps : List Str} {k : Nat} {sp : Sp} {f : Addr} {fd : FuncData} (hm : mg x = some (.ref f)) (F : FnP K x st f fd) (S : FnScope N ps (defScope st)) (len : ∀ vs H Q E, sp vs H Q E → vs.length = ps.length)
    (hbody : ∀ (f : Addr) (fd : FuncData) (cdv : Value) (A : Around) (outer : List Env) (s : Shared) (H : Hp) (vs : List V) (Q : VK) (E : XK), mg x = some (.ref f) → FnP K x st f fd → fd.code = cdv → A.guards = some [] → Room k (A.deeper (envOfC x (defScope st) s.heap.objs.size f cdv)) → sp vs H Q E →
      ∃ t, PSs (cxOf CX0 Pg w K mg base N x (defScope st) f cdv A outer s H E).nox (defBody st) t ∧ t { nx := fun _ H' => Q .non H', rt := Q } (start N vs) H) : FnG Pg w K mg base CX0 (k + 1) f fd ps sp :=
  okG F S len fun cdv A outer s H vs Q E hgd hr hc h => by
    obtain ⟨t, h1, h2⟩ := hbody f fd cdv A outer s H vs Q E hm F hc hgd hr h
    exact ⟨t, h1.nox, h2⟩
structure MkAt (w : World) (K : PySem.W.Frag) (mg : Str → Option Value) (base : Heap) (C : Addr) : Prop where
  ex : ∃ (f : Addr) (fd : FuncData), Mk K C f ∧ Binds K fd ["self", "rows"] [] ∧ FnOk Pg w K mg base CX0 4 f fd ["self", "rows"] (spInit C)
theorem pe_mk {X : Cx} {C : Addr} {x : Str} {p pos : Pos} {e : Expr} {es : List Expr} {t : TA} (M : MkAt X.w X.K X.mg X.base C) (hP : X.prog = Pg) (hm : X.mg x = some (.ref C)) (hr : Room 5 X.A) (hg : Gl X x) (hx : Passes CX0 X E0) (ha : PA X (e :: es) t) (hdb : (x == ("__debug__" : Str)) = false := by decide)
    (he : starEach (e :: es) X.env = (false, eval e X.env) :: starEach es X.env := by rfl) (hpl : (backTo pos (starEach es X.env)).any (·.1) = false := by rfl) : PE X (.Call (.Name x p) (e :: es) [] pos) (tMake C (spInit C) [] E0 t) := by
  obtain ⟨f, fd, hMk, hb, F⟩ := M.ex
  rw [← hP] at F
  exact pe_make hMk F hr hg hm hb .nil hx ha hdb he hpl
theorem _root_.LamX.ExtN.sql {K : PySem.W.Frag} {H H' : Hp} {a : Addr} {xs : List V} (s : ExtN H H') (h : SqL K H a xs) : SqL K H' a xs := by
  rcases h with (h | ⟨o, h⟩) | h
  · exact .inl (.inl (s _ _ h fun ps z => by cases z))
  · exact .inl (.inr ⟨o, s _ _ h fun ps z => by cases z⟩)
  · exact .inr h
theorem ExtN_kn {b : Addr} {H0 H1 H H' : Hp} (z : ExtN H0 H1) (n : H1 b = none) (x : ExtN H0 H) (y : KN b H H') : ExtN H0 H' := fun a o e h => y a o (fun q => by subst q; rw [z _ _ e h] at n; cases n) (x a o e h) h
theorem _root_.LamX.ExtN.seq {H H' : Hp} {a : Addr} {xs : List V} (s : ExtN H H') (h : SeqH H a xs) : SeqH H' a xs := h.elim (fun z => .inl (s.lst z)) fun z => .inr (s.tup z)
theorem _root_.LamX.ExtN.kd {H H' : Hp} {v : V} (s : ExtN H H') (h : Kd H v) : Kd H' v := by
  cases h with
  | non => exact .non
  | bl b => exact .bl b
  | int i => exact .int i
  | str x => exact .str x
  | lst e => exact .lst (s.lst e)
  | tup e => exact .tup (s.tup e)
/-- a queue that can't be, wherever the heap goes on -/
def Bad (H : Hp) (n : Nat) (v : V) (i : Int) : Prop := ∀ H', ExtN H H' → BadV H' n v i
theorem Bad.ext {H H' : Hp} {n : Nat} {v : V} {i : Int} (h : Bad H n v i) (s : ExtN H H') : Bad H' n v i := fun H2 s2 => h H2 (s.trans s2)
theorem bad_no {H : Hp} {n : Nat} {v : V} (k : ∀ H, Kd H v) (h : ∀ H, isS H v = false) : Bad H n v (-1) := fun H' _ => ⟨.inl ⟨h H', rfl⟩, k H', fun a xs e => by subst e; cases h H'⟩
theorem bad_long {H : Hp} {n : Nat} {a : Addr} {q : List Int} (h : H a = some (.lst (iV q))) (hl : 10000 < q.length) : Bad H n (.ref a) (-1) := fun H' s => ⟨.inr (.inl ⟨a, _, rfl, .inl (s.lst h), by rw [iV_len]; exact hl, rfl⟩), .lst (s.lst h), fun b xs e hs => by
  cases e
  rw [hs.inj (.inl (s.lst h))]
  exact allKd_iV⟩
theorem bad_at {H : Hp} {n : Nat} {a : Addr} {xs : List V} (k : Nat) (x : V) (h : H a = some (.tup xs)) (hl : xs.length ≤ 10000) (hx : xs[k]? = some x) (hb : isB x (n : Nat) = false) (hlt : ∀ j y, j < k → xs[j]? = some y → isB y (n : Nat) = true) (hk : ∀ y ∈ xs, ∀ H, Kd H y) : Bad H n (.ref a) (k : Nat) :=
  fun H' s => ⟨.inr (.inr ⟨a, xs, k, x, rfl, .inr (s.tup h), hl, hx, hb, hlt, rfl⟩), .tup (s.tup h), fun b ys e hs => by
    cases e
    rw [hs.inj (.inr (s.tup h))]
    exact fun y hy => hk y hy H'⟩
theorem lamO_lst {f : Addr} {q : Str} {params : Arguments} {body : Expr} {scope : Scope} {cl : List (Str × Addr)} {c' : Addr} (xs : List V) : LamO f q params body scope cl c' ≠ .lst xs := fun z => by
  unfold LamO at z
  cases z
theorem codeO_lst {c : Addr} {q : Str} (xs : List V) : CodeO c q ≠ .lst xs := fun z => by
  unfold CodeO at z
  cases z
theorem Tabs_lst {Ts : List (Addr × Str)} {H : Hp} {l : Addr} {xs : List V} {o : HO} (h : LamX.Tabs Ts H) (hl : H l = some (.lst xs)) : LamX.Tabs Ts (upd H l o) := fun p hp => by
  obtain ⟨ps, h1, h2, h3⟩ := h p hp
  refine ⟨ps, by rw [upd_ne (ne_of h1 hl (by intro z; cases z))]; exact h1, h2, fun pos cv hc => ?_⟩
  obtain ⟨c, e1, e2⟩ := h3 pos cv hc
  exact ⟨c, e1, by rw [upd_ne (ne_of e2 hl (codeO_lst xs))]; exact e2⟩
def spLaw (K : PySem.W.Frag) (Ts : List (Addr × Str)) : Sp := fun vs H Q _ => ∃ (a : Addr) (ns : List Int), vs = [.ref a] ∧ SqL K H a (ns.map V.int) ∧ ns.length ≤ 63 ∧ LamX.Tabs Ts H ∧ ∀ H', Q (.bl true) H'
section
variable {w : World} {K : PySem.W.Frag} {mg : Str → Option Value} {base : Heap} {C CT CR CW CQ CN Pt : Addr}
abbrev scLwN : List Str := ["_law_script", "_law_box_here", "_law_rows_here", "_law_many", "_law_k", "_law_queue_here", "_law_at", "_law_asks", "_law_bad", "_law_merger_here", "_law_ask"]
theorem scLw : FnScope scLwN ["_law_script"] (defScope sLaw) := ⟨rfl, rfl, rfl, by decide +kernel, rfl, by decide +kernel, by decide +kernel⟩
def qLw : Str := (envOfC "law" (defScope sLaw) 0 0 .none).qual ++ "<lambda>"
theorem ok_law {Ts : List (Addr × Str)} {f0 : Addr} {fd0 : FuncData} (hm0 : mg "law" = some (.ref f0)) (F0 : FnP K "law" sLaw f0 fd0) (T : Txt K mg C) (Er : Errs K mg CT CR CW CQ CN) (D__law_heard : DefAt K mg "_law_heard" sLHeard) (M : MkAt w K mg base C)
    (TBx : ∀ (f : Addr) (fd : FuncData) (cc : Addr), mg "law" = some (.ref f) → FnP K "law" sLaw f fd → fd.code = .ref cc → TabB base mg cc Pt)
    (hmT : (Pt, qLw) ∈ Ts) (hu : ∀ p ∈ Ts, p.1 = Pt → p.2 = qLw)
    (GR_fold_at : KeepsR w K mg base (L2.CX Pg w) "fold_at" 5 ["merger", "queue", "place"] (spFoldAt C CQ CR)) (GR_way_end : KeepsR w K mg base (L2.CX Pg w) "way_end" 5 ["merger", "queue", "way"] (spWayEnd C CQ CW))
    (GR_plain_fold : KeepsR w K mg base (L2.CX Pg w) "plain_fold" 5 ["merger", "queue"] (spPlainFold C CQ)) (GR_plain_way : KeepsR w K mg base (L2.CX Pg w) "plain_way" 5 ["merger", "queue"] (spPlainWay C CQ))
    (G__law_take : Keeps w K mg base CX0 "_law_take" 1 ["_law_box_here", "_law_many"] spLTake) (G__law_pick : Keeps w K mg base CX0 "_law_pick" 2 ["_law_box_here", "_law_some"] spLPick) (G__law_box : Keeps w K mg base CX0 "_law_box" 1 ["_law_script", "_law_k"] (spLBox K))
    (G__law_merger : Keeps w K mg base CX0 "_law_merger" 3 ["_law_box_here"] spLMerger) (G__law_queue : Keeps w K mg base CX0 "_law_queue" 2 ["_law_box_here", "_law_many", "_law_most"] spLQueue) (G__law_long_right : Keeps w K mg base CX0 "_law_long_right" 6 ["_law_box_here", "_law_merger_here", "_law_rows_here"] (spLLong C))
    (G__law_hands_right : KeepsG w K mg base CX0 "_law_hands_right" 9 ["_law_box_here", "_law_merger_here", "_law_rows_here", "_law_queue_here"] (spLHands C Ts)) (G__law_plain_right : KeepsG w K mg base CX0 "_law_plain_right" 7 ["_law_merger_here", "_law_rows_here", "_law_queue_here"] (spLPlain C)) :
    FnG Pg w K mg base CX0 10 f0 fd0 ["_law_script"] (spLaw K Ts) := by
  refine fnG hm0 F0 scLw (fun vs H Q E h => ?_) fun f fd cdv A outer s H vs Q E hmf hF hcd hgd hr h => ?_
  · obtain ⟨a, ns, rfl, _⟩ := h
    rfl
  · obtain ⟨a, ns, rfl, hs, hns, hTs, k⟩ := h
    obtain ⟨cc, hcc⟩ : ∃ cc, cdv = .ref cc := by
      obtain ⟨oc, od, dV, kV, doc, pm, an, cdv', ct, osl, rfl, lk, hc', _, _⟩ := hF.ex
      have e : cdv' = cdv := hcd
      subst e
      exact He.codeIn_ref hc'
    have TB := TBx f fd cc hmf hF (hcd.trans hcc)
    subst hcc
    have hcode : (envOfC "law" (defScope sLaw) s.heap.objs.size f (.ref cc)).code = .ref cc := rfl
    refine ⟨_, (pss_cons (ps_set (i := 1) scLw.nd rfl (Or.inl rfl) (pe_k G__law_box rfl (hr.mono (by decide)) (by rfl) pass0 (pa_cons (pv 0) (pa_cons pe_int pa_nil))))
      (pss_cons (ps_set (i := 2) scLw.nd rfl (Or.inl rfl) (pe_k G__law_merger rfl (hr.mono (by decide)) (by rfl) pass0 (pa_cons (pv 1) pa_nil)))
      (pss_cons (ps_asg (pe_tup (pa_cons (pe_mk M rfl T.mgM (hr.mono (by decide)) (by rfl) pass0 (pa_cons (pv 2) pa_nil)) (pa_cons (pe_callB (c_len K) (by rfl) T.len PySem.boot_len (pa_cons (pv 2) pa_nil)) pa_nil))) (pg_tupK K (n := 2) (by rfl) (pgs_cons (pg_name (i := 9) scLw.nd rfl (Or.inr rfl)) (pgs_cons (pg_name (i := 3) scLw.nd rfl (Or.inl rfl)) pgs_nil))))
      (pss_cons (ps_for PassesOwn.never rfl (pi_range2 (by rfl) T.range (pa_cons pe_int (pa_cons pe_int pa_nil))) (pg_name (i := 4) scLw.nd rfl (Or.inl rfl)) (pss_cons (ps_set (i := 1) scLw.nd rfl (Or.inl rfl) (pe_k G__law_box rfl (hr.mono (by decide)) (by rfl) pass0 (pa_cons (pv 0) (pa_cons (pv 4) pa_nil))))
      (pss_cons (ps_set (i := 5) scLw.nd rfl (Or.inl rfl) (pe_k G__law_queue rfl (hr.mono (by decide)) (by rfl) pass0 (pa_cons (pv 1) (pa_cons (pv 3) (pa_cons (pe_k G__law_pick rfl (hr.mono (by decide)) (by rfl) pass0 (pa_cons (pv 1) (pa_cons (pe_lst (pa_cons pe_int (pa_cons pe_int (pa_cons pe_int pa_nil)))) pa_nil))) pa_nil)))))
      (pss_one (ps_if (PW.pt (pw_or (pt_not (pt_val (pe_kG G__law_hands_right rfl hgd (hr.mono (by decide)) (by rfl) pass0 (pa_cons (pv 1) (pa_cons (pv 9) (pa_cons (pv 2) (pa_cons (pv 5) pa_nil))))))) (pw_or1 (pt_not (pt_val (pe_kG G__law_plain_right rfl hgd (hr.mono (by decide)) (by rfl) pass0 (pa_cons (pv 9) (pa_cons (pv 2) (pa_cons (pv 5) pa_nil))))))))) (pss_one (ps_ret pe_bl)) pss_nil)))))
      (pss_cons (ps_asg (pe_k G__law_pick rfl (hr.mono (by decide)) (by rfl) pass0 (pa_cons (pv 1) (pa_cons (pe_lst (pa_cons (pe_tup (pa_cons pe_non (pa_cons (pe_op op_sub pe_int pe_int) pa_nil))) (pa_cons (pe_tup (pa_cons (pe_tup (pa_cons pe_int (pa_cons (pv 3) pa_nil))) (pa_cons pe_int pa_nil))) (pa_cons (pe_tup (pa_cons (pe_tup (pa_cons pe_bl pa_nil)) (pa_cons pe_int pa_nil))) (pa_cons (pe_tup (pa_cons (pe_tup (pa_cons (pe_op op_sub pe_int pe_int) pa_nil)) (pa_cons pe_int pa_nil))) (pa_cons (pe_tup (pa_cons pe_str (pa_cons (pe_op op_sub pe_int pe_int) pa_nil))) (pa_cons (pe_tup (pa_cons (pe_op op_rep (pe_lst (pa_cons pe_int pa_nil)) pe_int) (pa_cons (pe_op op_sub pe_int pe_int) pa_nil))) pa_nil))))))) pa_nil))) (pg_tupK K (n := 2) (by rfl) (pgs_cons (pg_name (i := 8) scLw.nd rfl (Or.inr rfl)) (pgs_cons (pg_name (i := 6) scLw.nd rfl (Or.inr rfl)) pgs_nil))))
      (pss_cons (ps_set (i := 7) scLw.nd rfl (Or.inl rfl) (pe_lst (pa_cons (pe_lamV (c := cc) (P := Pt) (T := Ts) (params := lamA (lam 5)) (body := lamB (lam 5)) (scope := lamC (lam 5)) (by exact TB) hcode hmT hu (lamS_by (sc := defScope sLaw) (by decide +kernel)) rfl) pa_nil)))
      (pss_cons (ps_expr (pe_bm PySem.F.plainAttrs_list PySem.F.slot_list_append PySem.F.type_list_append mt_append (pv 7) (pa_cons (pe_lamV (c := cc) (P := Pt) (T := Ts) (params := lamA (lam 6)) (body := lamB (lam 6)) (scope := lamC (lam 6)) (by exact TB) hcode hmT hu (lamS_by (sc := defScope sLaw) (by decide +kernel)) rfl) pa_nil)))
      (pss_cons (ps_expr (pe_bm PySem.F.plainAttrs_list PySem.F.slot_list_append PySem.F.type_list_append mt_append (pv 7) (pa_cons (pe_lamV (c := cc) (P := Pt) (T := Ts) (params := lamA (lam 7)) (body := lamB (lam 7)) (scope := lamC (lam 7)) (by exact TB) hcode hmT hu (lamS_by (sc := defScope sLaw) (by decide +kernel)) rfl) pa_nil)))
      (pss_cons (ps_expr (pe_bm PySem.F.plainAttrs_list PySem.F.slot_list_append PySem.F.type_list_append mt_append (pv 7) (pa_cons (pe_lamV (c := cc) (P := Pt) (T := Ts) (params := lamA (lam 8)) (body := lamB (lam 8)) (scope := lamC (lam 8)) (by exact TB) hcode hmT hu (lamS_by (sc := defScope sLaw) (by decide +kernel)) rfl) pa_nil)))
      (pss_cons (ps_if (pt_cmpR (op_neD hr.units) (pe_lcI (own := [("_law_ask", 10)]) (g := gName 10) rfl scLw.nd (p_list K (pv 7)) (blkOk_by (own := [("_law_ask", 10)]) (N := scLwN) (sc := defScope sLaw) (by decide +kernel)) (fun _ _ _ _ _ => (pg_name (i := 10) scLw.nd rfl (Or.inl rfl))) (fun s0 s1 H1 C1 cl1 fp1 at1 => (pts_one (pt_cmpR (op_neDK K (by exact hr.units)) (PE.or (pe_heardV (k := 6) (j := 10) (params := lamA (lam 5)) (body := lamB (lam 5)) (scope := lamC (lam 5)) rfl (by exact D__law_heard) (by exact T) (by exact Er) hgd (hr.mono (by decide)) at1 (lamS_by (sc := defScope sLaw) (by decide +kernel)) (by rfl) (pv 10) (fun _ _ _ _ _ => rfl) (fun A outer s H E f c1 hr2 => (pe_k GR_fold_at.keeps rfl (hr2.mono (by decide)) (by rfl) (passes_call (takes_of rfl rfl rfl rfl) (fun _ _ _ _ h => h)) (pa_cons (pv 9) (pa_cons (pv 8) (pa_cons pe_non pa_nil)))))) (PE.or (pe_heardV (k := 6) (j := 10) (params := lamA (lam 6)) (body := lamB (lam 6)) (scope := lamC (lam 6)) rfl (by exact D__law_heard) (by exact T) (by exact Er) hgd (hr.mono (by decide)) at1 (lamS_by (sc := defScope sLaw) (by decide +kernel)) (by rfl) (pv 10) (fun _ _ _ _ _ => rfl) (fun A outer s H E f c1 hr2 => (pe_k GR_way_end.keeps rfl (hr2.mono (by decide)) (by rfl) (passes_call (takes_of rfl rfl rfl rfl) (fun _ _ _ _ h => h)) (pa_cons (pv 9) (pa_cons (pv 8) (pa_cons pe_non pa_nil)))))) (PE.or (pe_heardV (k := 6) (j := 10) (params := lamA (lam 7)) (body := lamB (lam 7)) (scope := lamC (lam 7)) rfl (by exact D__law_heard) (by exact T) (by exact Er) hgd (hr.mono (by decide)) at1 (lamS_by (sc := defScope sLaw) (by decide +kernel)) (by rfl) (pv 10) (fun _ _ _ _ _ => rfl) (fun A outer s H E f c1 hr2 => (pe_k GR_plain_fold.keeps rfl (hr2.mono (by decide)) (by rfl) (passes_call (takes_of rfl rfl rfl rfl) (fun _ _ _ _ h => h)) (pa_cons (pv 9) (pa_cons (pv 8) pa_nil))))) (pe_heardV (k := 6) (j := 10) (params := lamA (lam 8)) (body := lamB (lam 8)) (scope := lamC (lam 8)) rfl (by exact D__law_heard) (by exact T) (by exact Er) hgd (hr.mono (by decide)) at1 (lamS_by (sc := defScope sLaw) (by decide +kernel)) (by rfl) (pv 10) (fun _ _ _ _ _ => rfl) (fun A outer s H E f c1 hr2 => (pe_k GR_plain_way.keeps rfl (hr2.mono (by decide)) (by rfl) (passes_call (takes_of rfl rfl rfl rfl) (fun _ _ _ _ h => h)) (pa_cons (pv 9) (pa_cons (pv 8) pa_nil)))))))) (pe_tup (pa_cons pe_str (pa_cons (pv 6) pa_nil))) (nomark _)))) (fun _ _ _ _ _ => (pv 10))) (pe_lst pa_nil) (nomark _)) (pss_one (ps_ret pe_bl)) pss_nil)
      (pss_cons (ps_set (i := 8) scLw.nd rfl (Or.inr rfl) (pe_k G__law_pick rfl (hr.mono (by decide)) (by rfl) pass0 (pa_cons (pv 1) (pa_cons (pe_lst (pa_cons pe_non (pa_cons pe_int (pa_cons pe_str (pa_cons pe_bl pa_nil))))) pa_nil))))
      (pss_cons (ps_if (pt_cmpR (op_neD hr.units) (pe_heard (k := 6) (c := cc) (P := Pt) (Ts := Ts) rfl (by exact D__law_heard) (by exact T) (by exact Er) hgd (hr.mono (by decide)) (by rfl) (by exact TB) hcode hmT hu (lamS_by (sc := defScope sLaw) (by decide +kernel)) rfl (fun _ _ _ _ _ => rfl) (fun A outer s H E f c1 hr2 => (pe_k GR_way_end.keeps rfl (hr2.mono (by decide)) (by rfl) (passes_call (takes_of rfl rfl rfl rfl) (fun _ _ _ _ h => h)) (pa_cons (pv 9) (pa_cons (pe_tup (pa_cons pe_int pa_nil)) (pa_cons (pv 8) pa_nil)))))) (pe_tup (pa_cons pe_str (pa_cons (pe_op op_sub pe_int pe_int) pa_nil))) (nomark _)) (pss_one (ps_ret pe_bl)) pss_nil)
      (pss_cons (ps_if (PW.pt (pw_or (pt_cmpR (op_neD hr.units) (pe_k GR_way_end.keeps rfl (hr.mono (by decide)) (by rfl) passL (pa_cons (pv 9) (pa_cons (pe_tup pa_nil) (pa_cons (pe_tup pa_nil) pa_nil)))) (pe_tup pa_nil) (nomark _)) (pw_or1 (pt_cmpR (op_neD hr.units) (pe_k GR_plain_way.keeps rfl (hr.mono (by decide)) (by rfl) passL (pa_cons (pv 9) (pa_cons (pe_tup pa_nil) pa_nil))) (pe_tup pa_nil) (nomark _))))) (pss_one (ps_ret pe_bl)) pss_nil)
      (pss_one (ps_ret (pe_or (pe_cmpR op_gt (pe_k G__law_take rfl (hr.mono (by decide)) (by rfl) pass0 (pa_cons (pv 1) (pa_cons pe_int pa_nil))) pe_int (nomark _)) (pe_one (pe_k G__law_long_right rfl (hr.mono (by decide)) (by rfl) pass0 (pa_cons (pv 1) (pa_cons (pv 9) (pa_cons (pv 2) pa_nil))))))))))))))))))))), ?_⟩
    refine ⟨_, rfl, a, ns, 0, rfl, hs, by decide, hns, fun H1 b0 S1 hb0 bx0 => ?_⟩
    have b0s := bx0.get
    refine ⟨_, rfl, b0, rfl, bx0, fun H2 r as rows n K2 bx2 hL sq so fr fas => ?_⟩
    have S2 : Same H H2 := fun x o e => K2 x o (ne_of_none e hb0) (S1 x o e)
    have n12 := sq.most
    have n1 := sq.pos
    have lenA : (as.map V.ref).length = n := by rw [List.length_map, hL.2.1, sq.len]
    have nr0 : r ≠ b0 := fun z => by
      obtain ⟨_, _, e⟩ := b0s
      rw [z] at fr
      rw [fr] at e; cases e
    have na0 : ∀ x ∈ as, x ≠ b0 := fun x hx z => by
      obtain ⟨_, _, e⟩ := b0s
      have := fas x hx
      rw [z] at this
      rw [this] at e; cases e
    -- the merger
    refine ⟨_, rfl, fun m dx hm0 hdx ne => ⟨m, dx, r, as, rows, n, rfl, upd_same, ?_, sq, so, fun H4 K4 hM4 => ⟨rfl, ?_⟩⟩⟩
    · exact (hL.same (same_new hdx)).same (same_new (by rw [upd_ne ne.symm]; exact hm0))
    have S24 : Same H2 H4 := fun x o e => K4 x o (ne_of_none e hm0) (by rw [upd_ne (ne_of_none e hm0), upd_ne (ne_of_none e hdx)]; exact e)
    have hL4 := hL.same S24
    refine ⟨_, rfl, r, _, rfl, .inl (SqL.of hL4.1), by show 2 ≤ sizeLine; decide, fun tp htp => ⟨tp, _, rfl, SqT.of upd_same, rfl, _, _, rfl, _, _, rfl, rfl, ?_⟩⟩
    rw [lenA]
    have S5 : Same H4 (upd H4 tp (.tup [.ref m, .int (n : Nat)])) := same_new htp
    dsimp only
    show tSeq _ _ _ _ (upd H4 tp (.tup [.ref m, .int (n : Nat)]))
    generalize upd H4 tp (.tup [.ref m, .int (n : Nat)]) = H5 at S5
    have hM5 := hM4.same S5
    have hL5 := hL4.same S5
    have SH5 := (S2.trans S24).trans S5
    have T5 := Tabs_same hTs SH5
    have bx5 := (bx2.same S24).same S5
    clear S1 hb0 bx0 b0s K2 bx2 fr fas hL hm0 hdx ne K4 hM4 S24 hL4 htp S5
    -- the queues
    refine ⟨1, 4, rfl, ⟨by decide, by decide, by decide, by decide⟩, for_range (lo := 1) (n := 3)
      (fun i σ H' => ∃ (b : Addr) (xk xq : Option V), σ = [some (.ref a), some (.ref b), some (.ref r), some (.int (n : Nat)), xk, xq, none, none, none, some (.ref m), none] ∧ ExtN H5 H' ∧ Bx H' b ∧ LamX.Tabs Ts H' ∧ r ≠ b ∧ ∀ x ∈ as, x ≠ b)
      ⟨b0, _, _, rfl, ExtN.refl _, bx5, T5, nr0, na0⟩ (fun i σ H6 hi ⟨b, xk, xq, eσ, e6, bx6, T6, nrb, nab⟩ => ?_) fun σ H6 ⟨b, xk, xq, eσ, e6, bx6, T6, nrb, nab⟩ => ?_⟩
    · subst eσ
      refine ⟨_, rfl, _, rfl, a, ns, 1 + i, rfl, ((ExtN.same SH5).trans e6).sql hs, by omega, hns, fun H7 b7 S7 hb7 bx7 => ?_⟩
      have e7 := e6.trans (ExtN.same S7)
      have T7 := Tabs_same T6 S7
      have hL6 := e6.rl hL5
      obtain ⟨nr7, na7⟩ := hL6.off hb7
      refine ⟨_, rfl, _, rfl, _, rfl, by show 3 ≤ sizeLine; decide, fun l3 hl3 => ⟨b7, l3, [V.int 30, V.int 12, V.int 6], rfl, bx7.same (same_new hl3), upd_same, bx7.ne hl3, by show 1 ≤ 3; decide, by show 3 ≤ 10000; decide, fun x H8 hx K8 bx8 => ?_⟩⟩
      have kn8 : KN b7 H7 H8 := (KN.ofE (b := b7) (ExtN.same (same_new hl3))).trans (KN.of K8)
      have T8 := Tabs_keep (Tabs_same T7 (same_new hl3)) K8 (bx7.same (same_new hl3))
      obtain ⟨mm, rfl, hmm⟩ : ∃ mm : Nat, x = .int (mm : Nat) ∧ mm ≤ 30 := by
        simp only [List.mem_cons, List.not_mem_nil, or_false] at hx
        rcases hx with rfl | rfl | rfl
        · exact ⟨30, rfl, by decide⟩
        · exact ⟨12, rfl, by decide⟩
        · exact ⟨6, rfl, by decide⟩
      refine ⟨b7, n, mm, rfl, bx8, n1, n12, hmm, fun H9 p q K9 bx9 hp hq hlen => ?_⟩
      have kn9 := kn8.trans (KN.of K9)
      have T9 := Tabs_keep T8 K9 bx8
      have e9 := ExtN_kn e6 hb7 e7 kn9
      -- by hands
      refine ⟨_, rfl, _, rfl, _, rfl, _, rfl, b7, m, r, p, as, rows, n, q, rfl, bx9, e9.mg hM5, e9.rl hL5, sq, nr7, na7, hp, hq, hlen, T9, fun HA knA bxA TA => ⟨_, rfl, iteF ?_⟩⟩
      have eA := ExtN_kn e6 hb7 e9 knA
      obtain ⟨_, _, eb9⟩ := bx9.get
      have hpA := knA _ _ (ne_of hp eb9 (by intro z; cases z)) hp (fun ps z => by cases z)
      refine ⟨_, rfl, _, rfl, _, rfl, m, r, p, as, rows, n, q, rfl, eA.mg hM5, eA.rl hL5, sq, hpA, hq, hlen, fun HB SB => ⟨_, rfl, iteF ?_⟩⟩
      exact ⟨b7, _, _, rfl, eA.trans (ExtN.same SB), bxA.same SB, Tabs_same TA SB, nr7, na7⟩
    · subst eσ
      have hM6 := e6.mg hM5
      have hL6 := e6.rl hL5
      clear hM5 hL5 SH5 T5 bx5 e6 nr0 na0 S2
      -- queues that may be bad
      refine ⟨_, rfl, _, _, rfl, rfl, by show 2 ≤ sizeLine; decide, fun t1 ht1 => ?_⟩
      have s1 : Same H6 (upd H6 t1 (.tup [.non, .int (0 - 1)])) := same_new ht1
      have L1 : (upd H6 t1 (.tup [.non, .int (0 - 1)])) t1 = some (.tup [.non, .int (-1)]) := upd_same
      generalize upd H6 t1 (.tup [.non, .int (0 - 1)]) = G1 at s1 L1
      refine ⟨_, rfl, by show 2 ≤ sizeLine; decide, fun u2 hu2 => ⟨by show 2 ≤ sizeLine; decide, fun t2 ht2 => ?_⟩⟩
      have s2 : Same G1 (upd (upd G1 u2 (.tup [.int 0, .int (n : Nat)])) t2 (.tup [.ref u2, .int 1])) := (same_new hu2).new ht2
      have L2 : (upd (upd G1 u2 (.tup [.int 0, .int (n : Nat)])) t2 (.tup [.ref u2, .int 1])) t2 = some (.tup [.ref u2, .int 1]) := upd_same
      have M2 : (upd (upd G1 u2 (.tup [.int 0, .int (n : Nat)])) t2 (.tup [.ref u2, .int 1])) u2 = some (.tup [.int 0, .int (n : Nat)]) := by rw [upd_ne (ne_of_none upd_same ht2), upd_same]
      generalize upd (upd G1 u2 (.tup [.int 0, .int (n : Nat)])) t2 (.tup [.ref u2, .int 1]) = G2 at s2 L2 M2
      refine ⟨by show 1 ≤ sizeLine; decide, fun u3 hu3 => ⟨by show 2 ≤ sizeLine; decide, fun t3 ht3 => ?_⟩⟩
      have s3 : Same G2 (upd (upd G2 u3 (.tup [.bl true])) t3 (.tup [.ref u3, .int 0])) := (same_new hu3).new ht3
      have L3 : (upd (upd G2 u3 (.tup [.bl true])) t3 (.tup [.ref u3, .int 0])) t3 = some (.tup [.ref u3, .int 0]) := upd_same
      have M3 : (upd (upd G2 u3 (.tup [.bl true])) t3 (.tup [.ref u3, .int 0])) u3 = some (.tup [.bl true]) := by rw [upd_ne (ne_of_none upd_same ht3), upd_same]
      generalize upd (upd G2 u3 (.tup [.bl true])) t3 (.tup [.ref u3, .int 0]) = G3 at s3 L3 M3
      refine ⟨_, _, rfl, rfl, by show 1 ≤ sizeLine; decide, fun u4 hu4 => ⟨by show 2 ≤ sizeLine; decide, fun t4 ht4 => ?_⟩⟩
      have s4 : Same G3 (upd (upd G3 u4 (.tup [.int (0 - 1)])) t4 (.tup [.ref u4, .int 0])) := (same_new hu4).new ht4
      have L4 : (upd (upd G3 u4 (.tup [.int (0 - 1)])) t4 (.tup [.ref u4, .int 0])) t4 = some (.tup [.ref u4, .int 0]) := upd_same
      have M4 : (upd (upd G3 u4 (.tup [.int (0 - 1)])) t4 (.tup [.ref u4, .int 0])) u4 = some (.tup [.int (-1)]) := by rw [upd_ne (ne_of_none upd_same ht4), upd_same]; rfl
      generalize upd (upd G3 u4 (.tup [.int (0 - 1)])) t4 (.tup [.ref u4, .int 0]) = G4 at s4 L4 M4
      refine ⟨_, _, rfl, rfl, by show 2 ≤ sizeLine; decide, fun t5 ht5 => ?_⟩
      have s5 : Same G4 (upd G4 t5 (.tup [.str "0", .int (0 - 1)])) := same_new ht5
      have L5 : (upd G4 t5 (.tup [.str "0", .int (0 - 1)])) t5 = some (.tup [.str "0", .int (-1)]) := upd_same
      generalize upd G4 t5 (.tup [.str "0", .int (0 - 1)]) = G5 at s5 L5
      refine ⟨by show 1 ≤ sizeLine; decide, fun l0 hl0 => ⟨l0, 10001, [V.int 0], rfl, rfl, upd_same, by decide, by decide, by show 1 * 10001 ≤ 16777216; decide, fun u6 hu6 => ⟨_, _, rfl, rfl, by show 2 ≤ sizeLine; decide, fun t6 ht6 => ?_⟩⟩⟩
      have big : ∀ k : Nat, (List.replicate k [V.int 0]).flatten = iV (List.replicate k 0) := fun k => by
        induction k with
        | zero => rfl
        | succ k ih => rw [List.replicate_succ, List.flatten_cons, ih, List.replicate_succ]; rfl
      rw [big]
      have s6 : Same G5 (upd (upd (upd G5 l0 (.lst [V.int 0])) u6 (.lst (iV (List.replicate (10001 : Int).toNat 0)))) t6 (.tup [.ref u6, .int (0 - 1)])) := ((same_new hl0).new hu6).new ht6
      have L6 : (upd (upd (upd G5 l0 (.lst [V.int 0])) u6 (.lst (iV (List.replicate (10001 : Int).toNat 0)))) t6 (.tup [.ref u6, .int (0 - 1)])) t6 = some (.tup [.ref u6, .int (-1)]) := upd_same
      have M6 : (upd (upd (upd G5 l0 (.lst [V.int 0])) u6 (.lst (iV (List.replicate (10001 : Int).toNat 0)))) t6 (.tup [.ref u6, .int (0 - 1)])) u6 = some (.lst (iV (List.replicate (10001 : Int).toNat 0))) := by rw [upd_ne (ne_of_none upd_same ht6), upd_same]
      have n6b : u6 ≠ b := by
        have := (((((bx6.same s1).same s2).same s3).same s4).same s5).same (same_new (o := .lst [V.int 0]) hl0)
        exact this.ne hu6
      generalize upd (upd (upd G5 l0 (.lst [V.int 0])) u6 (.lst (iV (List.replicate (10001 : Int).toNat 0)))) t6 (.tup [.ref u6, .int (0 - 1)]) = G6 at s6 L6 M6
      refine ⟨by show 6 ≤ sizeLine; decide, fun l7 hl7 => ⟨b, l7, [V.ref t1, V.ref t2, V.ref t3, V.ref t4, V.ref t5, V.ref t6], rfl, ?_⟩⟩
      have s06 := ((((s1.trans s2).trans s3).trans s4).trans s5).trans s6
      have bxG := bx6.same s06
      have s7 : Same G6 (upd G6 l7 (.lst [V.ref t1, V.ref t2, V.ref t3, V.ref t4, V.ref t5, V.ref t6])) := same_new hl7
      refine ⟨bxG.same s7, upd_same, bxG.ne hl7, by show 1 ≤ 6; decide, by show 6 ≤ 10000; decide, fun x H7 hx K7 bx7 => ?_⟩
      obtain ⟨_, _, ebG⟩ := (bxG.same s7).get
      have kt : ∀ {x : Addr} {xs : List V}, G6 x = some (.tup xs) → H7 x = some (.tup xs) := fun {x xs} e => K7 _ _ (ne_of (s7 _ _ e) ebG (by intro z; cases z)) (s7 _ _ e)
      have k6 := K7 _ _ n6b (s7 _ _ M6)
      have T7 := Tabs_keep (Tabs_same T6 (s06.trans s7)) K7 (bxG.same s7)
      have hM7 := (hM6.same (s06.trans s7)).keep K7 ebG
      have hL7 := (hL6.same (s06.trans s7)).keep K7 nrb nab
      have ib : ∀ {i : Int}, ¬ (0 ≤ i ∧ i < (n : Nat)) → isB (.int i) (n : Nat) = false := fun {i} h => by
        cases z : isB (.int i) (n : Nat) with
        | false => rfl
        | true =>
          obtain ⟨j, e, h1, h2⟩ := isB_iff.mp z
          cases e
          exact absurd ⟨h1, h2⟩ h
      obtain ⟨tx, v, j, rfl, et, hB⟩ : ∃ (tx : Addr) (v : V) (j : Int), x = .ref tx ∧ H7 tx = some (.tup [v, .int j]) ∧ Bad H7 n v j := by
        simp only [List.mem_cons, List.not_mem_nil, or_false] at hx
        rcases hx with rfl | rfl | rfl | rfl | rfl | rfl
        · exact ⟨t1, _, _, rfl, kt (s6 _ _ (s5 _ _ (s4 _ _ (s3 _ _ (s2 _ _ L1))))), bad_no (fun _ => .non) fun _ => rfl⟩
        · refine ⟨t2, _, _, rfl, kt (s6 _ _ (s5 _ _ (s4 _ _ (s3 _ _ L2)))), bad_at 1 (.int (n : Nat)) (kt (s6 _ _ (s5 _ _ (s4 _ _ (s3 _ _ M2))))) (by show 2 ≤ 10000; decide) rfl (ib (by omega)) (fun j y hj e => ?_) fun y hy H => ?_⟩
          · have hj0 : j = 0 := by omega
            subst hj0
            cases e
            exact isB_com ⟨by decide, by omega⟩
          · simp only [List.mem_cons, List.not_mem_nil, or_false] at hy
            rcases hy with rfl | rfl <;> exact .int _
        · refine ⟨t3, _, _, rfl, kt (s6 _ _ (s5 _ _ (s4 _ _ L3))), bad_at 0 (.bl true) (kt (s6 _ _ (s5 _ _ (s4 _ _ M3)))) (by show 1 ≤ 10000; decide) rfl rfl (fun j y hj e => absurd hj (Nat.not_lt_zero _)) fun y hy H => ?_⟩
          simp only [List.mem_cons, List.not_mem_nil, or_false] at hy
          subst hy; exact .bl _
        · refine ⟨t4, _, _, rfl, kt (s6 _ _ (s5 _ _ L4)), bad_at 0 (.int (-1)) (kt (s6 _ _ (s5 _ _ M4))) (by show 1 ≤ 10000; decide) rfl (ib (by omega)) (fun j y hj e => absurd hj (Nat.not_lt_zero _)) fun y hy H => ?_⟩
          simp only [List.mem_cons, List.not_mem_nil, or_false] at hy
          subst hy; exact .int _
        · exact ⟨t5, _, _, rfl, kt (s6 _ _ L5), bad_no (fun _ => .str _) fun _ => rfl⟩
        · exact ⟨t6, _, _, rfl, kt L6, bad_long k6 (by rw [List.length_replicate]; decide)⟩
      refine ⟨tx, _, rfl, SqT.of et, rfl, _, _, rfl, _, _, rfl, rfl, ?_⟩
      clear k6 kt ebG s7 s06 n6b L6 M6 s6 L5 s5 L4 M4 s4 L3 M3 s3 L2 M2 s2 L1 s1 K7 hx bxG hM6 hL6 T6 bx6 big et
      -- the asks
      refine ⟨T7, fun f1 c1 H8 e8 T8 _ F1 C1 => ⟨by show 1 ≤ sizeLine; decide, fun l hl => ?_⟩⟩
      have x8 : ExtN H7 (upd H8 l (.lst [V.ref f1])) := e8.trans (ExtN.same (same_new hl))
      have T8' := Tabs_same T8 (same_new (o := .lst [V.ref f1]) hl)
      have F1 := same_new (o := .lst [V.ref f1]) hl _ _ F1
      have C1 := same_new (o := .lst [V.ref f1]) hl _ _ C1
      have A8 : (upd H8 l (.lst [V.ref f1])) l = some (.lst [V.ref f1]) := upd_same
      generalize upd H8 l (.lst [V.ref f1]) = J8 at x8 T8' F1 C1 A8
      refine ⟨_, rfl, .inl ⟨rfl, _, SqL.of A8⟩, T8', fun f2 c2 H9 e9 T9 _ F2 C2 => ⟨l, _, _, rfl, rfl, e9.lst A8, by show 1 < 16777216; decide, ?_⟩⟩
      have a2 := e9.lst A8
      have x9 : ExtN H7 (upd H9 l (.lst [V.ref f1, V.ref f2])) := ExtN_kn e8 hl (x8.trans e9) (KN.of keep_upd)
      have T9' := Tabs_lst (o := .lst [V.ref f1, V.ref f2]) T9 a2
      have A9 : (upd H9 l (.lst [V.ref f1, V.ref f2])) l = some (.lst [V.ref f1, V.ref f2]) := upd_same
      have F1 := e9 _ _ F1 lamO_ne
      have C1 := e9 _ _ C1 codeO_ne
      have F1 := (upd_ne (o := .lst [V.ref f1, V.ref f2]) (ne_of F1 a2 (lamO_lst _))).trans F1
      have C1 := (upd_ne (o := .lst [V.ref f1, V.ref f2]) (ne_of C1 a2 (codeO_lst _))).trans C1
      have F2 := (upd_ne (o := .lst [V.ref f1, V.ref f2]) (ne_of F2 a2 (lamO_lst _))).trans F2
      have C2 := (upd_ne (o := .lst [V.ref f1, V.ref f2]) (ne_of C2 a2 (codeO_lst _))).trans C2
      show tSeq _ _ _ _ (upd H9 l (.lst [V.ref f1, V.ref f2]))
      generalize upd H9 l (.lst [V.ref f1, V.ref f2]) = J9 at x9 T9' A9 F1 C1 F2 C2
      clear a2 T9 T8' A8 x8 e9
      refine ⟨_, rfl, .inl ⟨rfl, _, SqL.of A9⟩, T9', fun f3 c3 H10 e10 T10 _ F3 C3 => ⟨l, _, _, rfl, rfl, e10.lst A9, by show 2 < 16777216; decide, ?_⟩⟩
      have a3 := e10.lst A9
      have x10 : ExtN H7 (upd H10 l (.lst [V.ref f1, V.ref f2, V.ref f3])) := ExtN_kn e8 hl (x9.trans e10) (KN.of keep_upd)
      have T10' := Tabs_lst (o := .lst [V.ref f1, V.ref f2, V.ref f3]) T10 a3
      have A10 : (upd H10 l (.lst [V.ref f1, V.ref f2, V.ref f3])) l = some (.lst [V.ref f1, V.ref f2, V.ref f3]) := upd_same
      have F1 := e10 _ _ F1 lamO_ne
      have C1 := e10 _ _ C1 codeO_ne
      have F2 := e10 _ _ F2 lamO_ne
      have C2 := e10 _ _ C2 codeO_ne
      have F1 := (upd_ne (o := .lst [V.ref f1, V.ref f2, V.ref f3]) (ne_of F1 a3 (lamO_lst _))).trans F1
      have C1 := (upd_ne (o := .lst [V.ref f1, V.ref f2, V.ref f3]) (ne_of C1 a3 (codeO_lst _))).trans C1
      have F2 := (upd_ne (o := .lst [V.ref f1, V.ref f2, V.ref f3]) (ne_of F2 a3 (lamO_lst _))).trans F2
      have C2 := (upd_ne (o := .lst [V.ref f1, V.ref f2, V.ref f3]) (ne_of C2 a3 (codeO_lst _))).trans C2
      have F3 := (upd_ne (o := .lst [V.ref f1, V.ref f2, V.ref f3]) (ne_of F3 a3 (lamO_lst _))).trans F3
      have C3 := (upd_ne (o := .lst [V.ref f1, V.ref f2, V.ref f3]) (ne_of C3 a3 (codeO_lst _))).trans C3
      show tSeq _ _ _ _ (upd H10 l (.lst [V.ref f1, V.ref f2, V.ref f3]))
      generalize upd H10 l (.lst [V.ref f1, V.ref f2, V.ref f3]) = J10 at x10 T10' A10 F1 C1 F2 C2 F3 C3
      clear a3 T10 T9' A9 x9 e10
      refine ⟨_, rfl, .inl ⟨rfl, _, SqL.of A10⟩, T10', fun f4 c4 H11 e11 T11 _ F4 C4 => ⟨l, _, _, rfl, rfl, e11.lst A10, by show 3 < 16777216; decide, ?_⟩⟩
      have a4 := e11.lst A10
      have x11 : ExtN H7 (upd H11 l (.lst [V.ref f1, V.ref f2, V.ref f3, V.ref f4])) := ExtN_kn e8 hl (x10.trans e11) (KN.of keep_upd)
      have T11' := Tabs_lst (o := .lst [V.ref f1, V.ref f2, V.ref f3, V.ref f4]) T11 a4
      have A11 : (upd H11 l (.lst [V.ref f1, V.ref f2, V.ref f3, V.ref f4])) l = some (.lst [V.ref f1, V.ref f2, V.ref f3, V.ref f4]) := upd_same
      have F1 := e11 _ _ F1 lamO_ne
      have C1 := e11 _ _ C1 codeO_ne
      have F2 := e11 _ _ F2 lamO_ne
      have C2 := e11 _ _ C2 codeO_ne
      have F3 := e11 _ _ F3 lamO_ne
      have C3 := e11 _ _ C3 codeO_ne
      have F1 := (upd_ne (o := .lst [V.ref f1, V.ref f2, V.ref f3, V.ref f4]) (ne_of F1 a4 (lamO_lst _))).trans F1
      have C1 := (upd_ne (o := .lst [V.ref f1, V.ref f2, V.ref f3, V.ref f4]) (ne_of C1 a4 (codeO_lst _))).trans C1
      have F2 := (upd_ne (o := .lst [V.ref f1, V.ref f2, V.ref f3, V.ref f4]) (ne_of F2 a4 (lamO_lst _))).trans F2
      have C2 := (upd_ne (o := .lst [V.ref f1, V.ref f2, V.ref f3, V.ref f4]) (ne_of C2 a4 (codeO_lst _))).trans C2
      have F3 := (upd_ne (o := .lst [V.ref f1, V.ref f2, V.ref f3, V.ref f4]) (ne_of F3 a4 (lamO_lst _))).trans F3
      have C3 := (upd_ne (o := .lst [V.ref f1, V.ref f2, V.ref f3, V.ref f4]) (ne_of C3 a4 (codeO_lst _))).trans C3
      have F4 := (upd_ne (o := .lst [V.ref f1, V.ref f2, V.ref f3, V.ref f4]) (ne_of F4 a4 (lamO_lst _))).trans F4
      have C4 := (upd_ne (o := .lst [V.ref f1, V.ref f2, V.ref f3, V.ref f4]) (ne_of C4 a4 (codeO_lst _))).trans C4
      show tSeq _ _ _ _ (upd H11 l (.lst [V.ref f1, V.ref f2, V.ref f3, V.ref f4]))
      generalize upd H11 l (.lst [V.ref f1, V.ref f2, V.ref f3, V.ref f4]) = J11 at x11 T11' A11 F1 C1 F2 C2 F3 C3 F4 C4
      clear a4 T11 T10' A10 x10 e11
      -- what is heard of them
      refine ⟨_, rfl, l, rfl, ⟨_, SqL.of A11⟩, fun dd hdd => lc_list (K := K) (a := l) (xs := [V.ref f1, V.ref f2, V.ref f3, V.ref f4]) (fun i H' => ExtN J11 H' ∧ H' dd = some (.lst []) ∧ LamX.Tabs Ts H')
        ⟨ExtN.same (same_new hdd), upd_same, Tabs_same T11' (same_new hdd)⟩ (fun i H' _ z => SqL.of (z.1.lst A11)) (fun i x H' hx ⟨z1, z2, z3⟩ => ?_) (fun H' ⟨z1, z2, z3⟩ => ?_)⟩
      · rcases i with _ | _ | _ | _ | i
        · cases hx
          refine ⟨rfl, .inl ⟨f1, c1, rfl, z1 _ _ F1 lamO_ne, z1 _ _ C1 codeO_ne, z1 _ _ F1 lamO_ne, _, rfl, _, rfl, m, n, rows, v, .non, rfl, (x11.trans z1).mg hM7, sq, .inr ⟨j, hB _ (x11.trans z1), fun HX d SX hd ed => ⟨d, _, rfl, ed, .inr (.inr ⟨rfl, fun p hp => ?_⟩)⟩⟩⟩⟩
          have sY := SX.trans (same_new (o := .tup [.str "queue", .int j]) hp)
          have P1 : (upd HX p (.tup [.str "queue", .int j])) p = some (.tup [.str "queue", .int j]) := upd_same
          generalize upd HX p (.tup [.str "queue", .int j]) = HY at sY P1
          refine ⟨_, rfl, by show 2 ≤ sizeLine; decide, fun p2 hp2 => ne_si (same_new hp2 _ _ P1) upd_same (by decide +kernel) ⟨_, rfl, iteF ?_⟩⟩
          have sZ := sY.trans (same_new (o := .tup [.str "queue", .int j]) hp2)
          exact ⟨z1.trans (ExtN.same sZ), sZ _ _ z2, Tabs_same z3 sZ⟩
        · cases hx
          refine ⟨rfl, .inr (.inl ⟨f2, c2, rfl, z1 _ _ F2 lamO_ne, z1 _ _ C2 codeO_ne, z1 _ _ F2 lamO_ne, _, rfl, _, rfl, m, n, rows, v, .non, rfl, (x11.trans z1).mg hM7, sq, .inr ⟨j, hB _ (x11.trans z1), fun HX d SX hd ed => ⟨d, _, rfl, ed, .inr (.inr ⟨rfl, fun p hp => ?_⟩)⟩⟩⟩)⟩
          have sY := SX.trans (same_new (o := .tup [.str "queue", .int j]) hp)
          have P1 : (upd HX p (.tup [.str "queue", .int j])) p = some (.tup [.str "queue", .int j]) := upd_same
          generalize upd HX p (.tup [.str "queue", .int j]) = HY at sY P1
          refine ⟨_, rfl, by show 2 ≤ sizeLine; decide, fun p2 hp2 => ne_si (same_new hp2 _ _ P1) upd_same (by decide +kernel) ⟨_, rfl, iteF ?_⟩⟩
          have sZ := sY.trans (same_new (o := .tup [.str "queue", .int j]) hp2)
          exact ⟨z1.trans (ExtN.same sZ), sZ _ _ z2, Tabs_same z3 sZ⟩
        · cases hx
          refine ⟨rfl, .inr (.inr (.inl ⟨f3, c3, rfl, z1 _ _ F3 lamO_ne, z1 _ _ C3 codeO_ne, z1 _ _ F3 lamO_ne, _, rfl, _, rfl, m, n, rows, v, rfl, (x11.trans z1).mg hM7, sq, .inr ⟨j, hB _ (x11.trans z1), fun HX d SX hd ed => ⟨d, _, rfl, ed, .inr (.inr ⟨rfl, fun p hp => ?_⟩)⟩⟩⟩))⟩
          have sY := SX.trans (same_new (o := .tup [.str "queue", .int j]) hp)
          have P1 : (upd HX p (.tup [.str "queue", .int j])) p = some (.tup [.str "queue", .int j]) := upd_same
          generalize upd HX p (.tup [.str "queue", .int j]) = HY at sY P1
          refine ⟨_, rfl, by show 2 ≤ sizeLine; decide, fun p2 hp2 => ne_si (same_new hp2 _ _ P1) upd_same (by decide +kernel) ⟨_, rfl, iteF ?_⟩⟩
          have sZ := sY.trans (same_new (o := .tup [.str "queue", .int j]) hp2)
          exact ⟨z1.trans (ExtN.same sZ), sZ _ _ z2, Tabs_same z3 sZ⟩
        · cases hx
          refine ⟨rfl, .inr (.inr (.inr ⟨f4, c4, rfl, z1 _ _ F4 lamO_ne, z1 _ _ C4 codeO_ne, z1 _ _ F4 lamO_ne, _, rfl, _, rfl, m, n, rows, v, rfl, (x11.trans z1).mg hM7, sq, .inr ⟨j, hB _ (x11.trans z1), fun HX d SX hd ed => ⟨d, _, rfl, ed, .inr (.inr ⟨rfl, fun p hp => ?_⟩)⟩⟩⟩))⟩
          have sY := SX.trans (same_new (o := .tup [.str "queue", .int j]) hp)
          have P1 : (upd HX p (.tup [.str "queue", .int j])) p = some (.tup [.str "queue", .int j]) := upd_same
          generalize upd HX p (.tup [.str "queue", .int j]) = HY at sY P1
          refine ⟨_, rfl, by show 2 ≤ sizeLine; decide, fun p2 hp2 => ne_si (same_new hp2 _ _ P1) upd_same (by decide +kernel) ⟨_, rfl, iteF ?_⟩⟩
          have sZ := sY.trans (same_new (o := .tup [.str "queue", .int j]) hp2)
          exact ⟨z1.trans (ExtN.same sZ), sZ _ _ z2, Tabs_same z3 sZ⟩
        · simp at hx
      · refine ⟨Nat.zero_le _, fun p0 hp0 => ne_nil (q := []) (same_new hp0 _ _ z2) upd_same ⟨_, rfl, iteF ?_⟩⟩
        have xC := x11.trans (z1.trans (ExtN.same (same_new (o := .lst []) hp0)))
        have TC := Tabs_same z3 (same_new (o := .lst []) hp0)
        generalize upd H' p0 (.lst []) = HC at xC TC
        have hMC := xC.mg hM7
        have hLC := xC.rl hL7
        have bxC := xC.bx bx7
        clear z1 z2 z3 hp0 hdd A11 x11 T11' F1 F2 F3 F4 C1 C2 C3 C4 hB xC hM7 hL7 bx7 T7
        -- a way that can't be
        refine ⟨_, rfl, by show 4 ≤ sizeLine; decide, fun l4 hl4 => ⟨b, l4, [V.non, V.int 5, V.str "", V.bl true], rfl, bxC.same (same_new hl4), upd_same, bxC.ne hl4, by show 1 ≤ 4; decide, by show 4 ≤ 10000; decide, fun x HD hx KD bxD => ?_⟩⟩
        have s4 : Same HC (upd HC l4 (.lst [V.non, V.int 5, V.str "", V.bl true])) := same_new hl4
        obtain ⟨_, _, eb4⟩ := (bxC.same s4).get
        have hMD := (hMC.same s4).keep KD eb4
        have hLD := (hLC.same s4).keep KD nrb nab
        have TD := Tabs_keep (Tabs_same TC s4) KD (bxC.same s4)
        have hx2 : (∀ H, Kd H x) ∧ ∀ H, isS H x = false := by
          simp only [List.mem_cons, List.not_mem_nil, or_false] at hx
          rcases hx with rfl | rfl | rfl | rfl
          · exact ⟨fun _ => .non, fun _ => rfl⟩
          · exact ⟨fun _ => .int _, fun _ => rfl⟩
          · exact ⟨fun _ => .str _, fun _ => rfl⟩
          · exact ⟨fun _ => .bl _, fun _ => rfl⟩
        clear s4 KD hMC hLC TC bxC eb4 hl4 hx
        refine ⟨TD, fun HE eE TE => ?_⟩
        refine ⟨_, rfl, by show 1 ≤ sizeLine; decide, fun u hu => ⟨_, rfl, m, n, rows, .ref u, x, rfl, (eE.mg hMD).same (same_new hu), sq, .inl ⟨[0], ⟨u, rfl, .inr upd_same, fun c hc => ?_, by show 1 ≤ 10000; decide⟩, hx2.1 _, .inl ⟨hx2.2 _, fun HX d SX hd ed => ⟨d, _, rfl, ed, .inr (.inl ⟨rfl, fun p hp => ?_⟩)⟩⟩⟩⟩⟩
        · rw [List.mem_singleton.mp hc]; exact ⟨by decide, by omega⟩
        · have sY := ((same_new (o := .tup [V.int 0]) hu).trans SX).trans (same_new (o := .tup [.str "way", .int (-1)]) hp)
          have P1 : (upd HX p (.tup [.str "way", .int (-1)])) p = some (.tup [.str "way", .int (-1)]) := upd_same
          generalize upd HX p (.tup [.str "way", .int (-1)]) = HY at sY P1
          refine ⟨_, _, rfl, rfl, by show 2 ≤ sizeLine; decide, fun p2 hp2 => ne_si (i := -1) (same_new hp2 _ _ P1) upd_same (by decide +kernel) ⟨_, rfl, iteF ?_⟩⟩
          have eZ := eE.trans (ExtN.same (sY.trans (same_new (o := .tup [.str "way", .int (0 - 1)]) hp2)))
          have hMZ := eZ.mg hMD
          have hLZ := eZ.rl hLD
          have bxZ := eZ.bx bxD
          generalize upd HY p2 (.tup [.str "way", .int (0 - 1)]) = HZ at hMZ hLZ bxZ
          clear eZ sY P1 hp2 hp ed hd SX hu hx2 TD TE eE hMD hLD bxD
          -- nothing
          refine ⟨_, rfl, Nat.zero_le _, fun w1 hw1 => ⟨Nat.zero_le _, fun w2 hw2 => ?_⟩⟩
          have s1 := (same_new (o := .tup []) hw1).new (o := .tup []) hw2
          have W1 : (upd (upd HZ w1 (.tup [])) w2 (.tup [])) w1 = some (.tup (iV [])) := by rw [upd_ne (ne_of_none upd_same hw2), upd_same]; rfl
          have W2 : (upd (upd HZ w1 (.tup [])) w2 (.tup [])) w2 = some (.tup (nV [] ++ [])) := upd_same
          generalize upd (upd HZ w1 (.tup [])) w2 (.tup []) = HF at s1 W1 W2
          refine ⟨m, n, rows, .ref w1, .ref w2, rfl, hMZ.same s1, sq, .inl ⟨[], ⟨w1, rfl, .inr W1, fun c hc => (by cases hc), Nat.zero_le _⟩, .tup W2, .inr ⟨w2, [], [], rfl, .inr W2, fun x hx => (by cases hx), trivial, fun _ HG t3 s2 W3 => ?_, fun x xs e => by cases e⟩⟩⟩
          refine ⟨Nat.zero_le _, fun w4 hw4 => ne_tup (q := []) (same_new hw4 _ _ W3) upd_same ⟨_, rfl, iteF ?_⟩⟩
          have s3 := s2.trans (same_new (o := .tup []) hw4)
          generalize upd HG w4 (.tup []) = HI at s3
          refine ⟨_, rfl, Nat.zero_le _, fun w5 hw5 => ?_⟩
          have s4 := s3.trans (same_new (o := .tup []) hw5)
          have W5 : (upd HI w5 (.tup [])) w5 = some (.tup (iV [])) := upd_same
          generalize upd HI w5 (.tup []) = HJ at s4 W5
          have s14 := s1.trans s4
          refine ⟨m, n, rows, .ref w5, rfl, hMZ.same s14, sq, .inl ⟨[], ⟨w5, rfl, .inr W5, fun c hc => (by cases hc), Nat.zero_le _⟩, fun HK t6 s6 W6 => ⟨Nat.zero_le _, fun w7 hw7 => ne_tup (q := []) (same_new hw7 _ _ W6) upd_same ⟨_, rfl, iteF ?_⟩⟩⟩⟩
          have s17 := (s14.trans s6).trans (same_new (o := .tup []) hw7)
          generalize upd HK w7 (.tup []) = HL at s17
          refine ⟨_, rfl, b, 16, rfl, bxZ.same s17, by decide, by decide, fun d HM hd KM bxM => ⟨_, _, rfl, rfl, _, rfl, ?_⟩⟩
          obtain ⟨_, _, ebL⟩ := (bxZ.same s17).get
          refine ite2 (fun h => ?_) fun h => ?_
          · exact k HM
          · exact ⟨_, rfl, _, rfl, _, rfl, b, m, r, as, rows, n, rfl, bxM, (hMZ.same s17).keep KM ebL, (hLZ.same s17).keep KM nrb nab, sq, nrb, nab, fun HN => k HN⟩
end
end K7
end

section
-- K7Hook
set_option Elab.async false
set_option linter.all false
set_option maxRecDepth 100000
set_option maxHeartbeats 2000000
/-! What the head is asked: the defs, the own errors (whose __init__ closes over the class), two tables. -/
namespace K7
open PySem PySem.Spec PyProof.Rows L2 He
/-! ### an own error's class and its __init__ -/
abbrev FnC : Type := Option (Str × Str × Arguments × FuncBody × Scope × Addr × Addr × List Str)
def fnC (K : PySem.W.Frag) (cn : Str) : FnC := match K.lookup (ma K (ga K cn) "__init__") with
  | some ⟨_, _, .func fd, _⟩ => some (fd.name, fd.qualname, fd.params, fd.body, fd.scope, fd.globals, fd.builtins, fd.closure.map (·.1))
  | _ => none
def errV (cn : Str) (st : Stmt) : FnC := some ("__init__", cn ++ ".__init__", defArgs st, .stmts (defBody st), defScope st, mainGlobals, builtinsNs, ["__class__"])
def clsB (K : PySem.W.Frag) (C : Addr) : Bool := match K.lookup C with
  | some ⟨.type t, _, .cls cd, sl⟩ => decide (t = "type") && (match cd.mro, sl.toList with
    | .ref C' :: bm, [_, _, _, _, some (.builtin n), _] => decide (C' = C) && (decide (n = "ValueError.__new__") && (!cd.hasDel && (cd.hasDict && PySem.HandSPX.refsVE bm)))
    | _, _ => false)
  | _ => false
def noneB : Value → Bool
  | .none => true
  | _ => false
def codeB (K : PySem.W.Frag) (file : Str) (q : Str) (cd : Value) : Bool := match cd with
  | .ref c => PySem.W.codeIn K (.ref c) q && (match K.lookup c with
    | some ⟨_, _, .fields vs, _⟩ => (match (vs[2]? : Option Value) with
      | some (.str f _) => file == f
      | _ => false)
    | _ => false)
  | _ => false
def cellB (K : PySem.W.Frag) (C cc : Addr) : Bool := match K.lookup cc with
  | some ⟨_, _, .cell (some (.ref D)), _⟩ => decide (D = C)
  | _ => false
def initB (K : PySem.W.Frag) (file : Str) (cn : Str) : Bool := match K.lookup (ma K (ga K cn) "__init__") with
  | some ⟨_, _, .func fd, _⟩ => noneB fd.defaults && (noneB fd.kwdefaults && (codeB K file (cn ++ ".__init__") fd.code && (match fd.closure with
    | [(_, cc)] => cellB K (ga K cn) cc
    | _ => false)))
  | _ => false
def oB (a b : Option Bool) : Bool := decide (a = b)
def vB (a b : Option Value) : Bool := decide (a = b)
def errB (file : Str) (K : PySem.W.Frag) (cn : Str) : Bool :=
  clsB K (ga K cn) && (initB K file cn && (
    eqO (PySem.W.findIn K (.ref (ga K cn)) "__setattr__") (some (some (.builtin "object.__setattr__"))) && (
    eqO (PySem.W.findIn K (.ref (ga K cn)) "__getattribute__") (some (some (.builtin "BaseException.__getattribute__"))) && (
    eqO (PySem.W.findIn K (.ref (ga K cn)) "__getattr__") (some none) && (
    eqO (PySem.W.findIn K (.ref (ga K cn)) "at") (some none) && (
    eqO (PySem.W.findIn K (.ref (ga K cn)) "__init__") (some (some (.ref (ma K (ga K cn) "__init__")))) && (
    vB (PySem.W.typeIn K (.ref (ma K (ga K cn) "__init__"))) (some (.type "function")) && (
    PySem.W.keepIn K (.ref (ga K cn)) && (
    oB (PySem.W.subIn K (.ref (ga K cn)) (.type "BaseException")) (some true) && (
    oB (PySem.W.subIn K (.ref (ga K cn)) (.type "ValueError")) (some true) && (
    vB (PySem.W.typeIn K (.ref (ga K cn))) (some (.type "type")) && (
    PySem.W.hasDictIn K (ga K cn) && (
    eqO (PySem.W.ks_superIn K (ga K cn) (ga K cn) "__init__") (some (some (.builtin "ValueError.__init__"))) && (
    oB (PySem.W.mroIn K (ga K cn) (.ref (ga K cn))) (some true) &&
    eqO (PySem.W.nsIn K cStatics "thirdparty.any") (some none)))))))))))))))
theorem clsB_ok {K : PySem.W.Frag} {C : Addr} (h : clsB K C = true) : ∃ nm q N bs bm sn sub ab col dd k0 k1 k2 k3 k5, K.lookup C = some (excClassObj nm q C N bs bm true sn sub ab col dd k0 k1 k2 k3 k5 "ValueError.__new__") ∧ PySem.HandSPX.refsVE bm = true := by
  unfold clsB at h
  split at h
  · rename_i t od cd sl ho
    obtain ⟨h1, h2⟩ := ba h
    split at h2
    · rename_i C' bm k0 k1 k2 k3 n k5 hm hs
      obtain ⟨e1, h3⟩ := ba h2
      obtain ⟨e2, h4⟩ := ba h3
      obtain ⟨e3, h5⟩ := ba h4
      obtain ⟨e4, e5⟩ := ba h5
      obtain ⟨nm, bs, mro, ns, qn, hd, sn, sub, ab, col, del⟩ := cd
      have e1 := of_decide_eq_true e1
      have e2 := of_decide_eq_true e2
      have e6 := of_decide_eq_true h1
      dsimp only at hm e3 e4
      subst e1 e2 e4 e6
      subst hm
      have e7 : del = false := by
        cases del
        · rfl
        · cases e3
      subst e7
      have hsl : sl = #[k0, k1, k2, k3, some (.builtin "ValueError.__new__"), k5] := by
        obtain ⟨l⟩ := sl
        simp only at hs
        rw [hs]
      subst hsl
      exact ⟨nm, qn, ns, bs, bm, sn, sub, ab, col, od, k0, k1, k2, k3, k5, ho, e5⟩
    · cases h2
  · cases h
theorem noneB_ok {v : Value} (h : noneB v = true) : v = .none := by
  cases v <;> first | rfl | cases h
theorem codeB_ok {K : PySem.W.Frag} {file q : Str} {cd : Value} (h : codeB K file q cd = true) : ∃ c : Addr, cd = .ref c ∧ PySem.W.codeIn K (.ref c) q = true ∧
    ∃ (ccl : Value) (cdd : Option Addr) (vs : Array Value) (ccs : Array (Option Value)) (f : Str) (tf : Tok), K.lookup c = some ⟨ccl, cdd, .fields vs, ccs⟩ ∧ vs[2]? = some (.str f tf) ∧ (file == f) = true := by
  unfold codeB at h
  split at h
  · rename_i c
    obtain ⟨h1, h2⟩ := ba h
    split at h2
    · rename_i ccl cdd vs ccs ho
      split at h2
      · rename_i f tf hv
        exact ⟨c, rfl, h1, ccl, cdd, vs, ccs, f, tf, ho, hv, h2⟩
      · cases h2
    · cases h2
  · cases h
theorem cellB_ok {K : PySem.W.Frag} {C cc : Addr} (h : cellB K C cc = true) : ∃ (cl : Value) (cld : Option Addr) (csl : Array (Option Value)), K.lookup cc = some ⟨cl, cld, .cell (some (.ref C)), csl⟩ := by
  unfold cellB at h
  split at h
  · rename_i cl cld D csl ho
    have e := of_decide_eq_true h
    subst e
    exact ⟨cl, cld, csl, ho⟩
  · cases h
theorem err_of {prog : Program} {K : PySem.W.Frag} {mg : Str → Option Value} {cn : Str} {st : Stmt} {msg : Str} {p1 p2 q0 q1 q2 q3 q4 q5 r1 r2 r3 r4 : Pos} (e : fnC K cn = errV cn st) (b : errB prog.main.file K cn = true)
    (hA : defArgs st = PySem.K7X.iA p1 p2) (hB : defBody st = PySem.K7X.iB msg q0 q1 q2 q3 q4 q5 r1 r2 r3 r4) (hS : defScope st = PySem.K7X.iS)
    (hev : ∃ pl : Env → Sem Bool, ∀ env : Env, eval (.Call (.Attribute (.Call (.Name "super" q0) [] [] q1) "__init__" q2) [.Constant (.str msg) 0 q3] [] q4) env = (do
      let ov ← attributeBase (.Call (.Name "super" q0) [] [] q1) "__init__" env (eval (.Call (.Name "super" q0) [] [] q1) env)
      standAt q2.atName
      let (f, first) ← holding [ov] (getMethod ov "__init__" (pl env))
      callWith q4 f first (backTo q4 (starEach [.Constant (.str msg) 0 q3] env)) []))
    (hg : mg cn = some (.ref (ga K cn))) (hs : mg "super" = none) (htop : (prog.main.scope.names.lookup ("super" : Str)).isSome = false) : PySem.K7X.ErrTxt prog K mg cn (ga K cn) (ma K (ga K cn) "__init__") := by
  unfold errB at b
  obtain ⟨b1, b⟩ := ba b
  obtain ⟨b2, b⟩ := ba b
  obtain ⟨b3, b⟩ := ba b
  obtain ⟨b4, b⟩ := ba b
  obtain ⟨b5, b⟩ := ba b
  obtain ⟨b6, b⟩ := ba b
  obtain ⟨b7, b⟩ := ba b
  obtain ⟨b8, b⟩ := ba b
  obtain ⟨b9, b⟩ := ba b
  obtain ⟨b10, b⟩ := ba b
  obtain ⟨b11, b⟩ := ba b
  obtain ⟨b12, b⟩ := ba b
  obtain ⟨b13, b⟩ := ba b
  obtain ⟨b14, b⟩ := ba b
  obtain ⟨b15, b16⟩ := ba b
  refine ⟨hg, clsB_ok b1, eqO_ok b3, eqO_ok b4, eqO_ok b5, eqO_ok b6, eqO_ok b7, of_decide_eq_true b8, b9, of_decide_eq_true b10, of_decide_eq_true b11, of_decide_eq_true b12, b13, eqO_ok b14, of_decide_eq_true b15, eqO_ok b16, hs, ?_, htop⟩
  unfold initB at b2
  unfold fnC errV at e
  split at b2
  · rename_i oc od fd osl ho
    rw [ho] at e
    obtain ⟨n1, n2, n3, n4, n5, n6, n7, n8, n9, n10, n11, n12, n13, n14, n15⟩ := fd
    have e2 : (some (n1, n2, n3, n4, n5, n6, n15, n7.map (·.1)) : FnC) = (some (("__init__" : Str), cn ++ (".__init__" : Str), defArgs st, FuncBody.stmts (defBody st), defScope st, mainGlobals, builtinsNs, ([("__class__" : Str)] : List Str)) : FnC) := e
    simp only [Option.some.injEq, Prod.mk.injEq] at e2
    obtain ⟨h1, h2, h3, h4, h5, h6, h7, h8⟩ := e2
    obtain ⟨c1, b2⟩ := ba b2
    obtain ⟨c2, b2⟩ := ba b2
    obtain ⟨c3, c4⟩ := ba b2
    have d1 : n8 = .none := noneB_ok c1
    have d2 : n9 = .none := noneB_ok c2
    obtain ⟨cda, d3, d4, d5⟩ := codeB_ok c3
    have d3 : n13 = .ref cda := d3
    split at c4
    · rename_i x cc hcl
      have hcl : n7 = [(x, cc)] := hcl
      subst hcl
      have hx : x = ("__class__" : Str) := by
        have z : [x] = ([("__class__" : Str)] : List Str) := h8
        exact (List.cons.inj z).1
      subst h1 h2 h3 h4 h5 h6 h7 d1 d2 d3 hx
      rw [hA, hB, hS] at ho
      exact ⟨oc, od, n10, n11, n12, cda, n14, osl, cc, msg, p1, p2, q0, q1, q2, q3, q4, q5, r1, r2, r3, r4, ho, d4, hev, d5, cellB_ok c4⟩
    · cases c4
  · cases b2
/-! ### the Hook -/
def ndB : List Addr → Bool
  | [] => true
  | a :: l => l.all (fun b => !decide (a = b)) && ndB l
theorem ndB_ok : ∀ {l : List Addr}, ndB l = true → l.Nodup
  | [], _ => List.nodup_nil
  | a :: l, h => by
    obtain ⟨h1, h2⟩ := ba h
    refine List.nodup_cons.mpr ⟨fun z => ?_, ndB_ok h2⟩
    have := List.all_eq_true.mp h1 a z
    simp at this
def asK (g : Addr → Option Obj) (n : Nat) : List Addr := cStatics :: asD g n
def frK (g : Addr → Option Obj) (n : Nat) : PySem.W.Frag := frT g (asK g n)
structure Says (fa : List Fa) (fn : List DefD) (er : List (Str × Stmt)) (tf : List Defn) (file : Str) (w : World) (h : Heap) (K : PySem.W.Frag) : Prop where
  d : SaysD fa fn K
  e : er.map (fun p => fnC K p.1) = er.map fun p => errV p.1 p.2
  b : ∀ p ∈ er, errB file K p.1 = true
  hd : ∀ p ∈ tf, PySem.W.codeHdIn K (cT K p).1 (cT K p).2 = true
  out : ∀ p ∈ tf, K.lookup (cT K p).2 = none
  empty : ∀ p ∈ tf, h.get? (cT K p).2 = some { cls := .none, data := .fields #[] }
  nd : (tf.map fun p => (cT K p).2).Nodup
abbrev Al7 : Type := AlD × List FnC × Bool
def obs7 (n : Nat) (fa : List Fa) (fn : List DefD) (er : List (Str × Stmt)) (tf : List Defn) (file : Str) (g : Addr → Option Obj) : Al7 :=
  (obsD fa fn (frK g n), er.map (fun p => fnC (frK g n) p.1), (er.all fun p => errB file (frK g n) p.1) && (tabsB g tf (frK g n) && ndB (tf.map fun p => (cT (frK g n) p).2)))
def val7 (fn : List DefD) (er : List (Str × Stmt)) : Al7 := (valD fn, er.map (fun p => errV p.1 p.2), true)
theorem says7_of {n : Nat} {fa : List Fa} {fn : List DefD} {er : List (Str × Stmt)} {tf : List Defn} {file : Str} {w : World} {h : Heap} (e : obs7 n fa fn er tf file h.get? = val7 fn er) : Says fa fn er tf file w h (frK h.get? n) := by
  have e1 : obsD fa fn (frK h.get? n) = valD fn := congrArg (fun z : Al7 => z.1) e
  have e2 : er.map (fun p => fnC (frK h.get? n) p.1) = er.map (fun p => errV p.1 p.2) := congrArg (fun z : Al7 => z.2.1) e
  have e3 : ((er.all fun p => errB file (frK h.get? n) p.1) && (tabsB h.get? tf (frK h.get? n) && ndB (tf.map fun p => (cT (frK h.get? n) p).2))) = true := congrArg (fun z : Al7 => z.2.2) e
  obtain ⟨h1, h2⟩ := ba e3
  obtain ⟨h2, h3⟩ := ba h2
  have key : ∀ p ∈ tf, PySem.W.codeHdIn (frK h.get? n) (cT (frK h.get? n) p).1 (cT (frK h.get? n) p).2 = true ∧ ∃ o, h.get? (cT (frK h.get? n) p).2 = some o ∧ emptyTab o = true := fun p hp => by
    obtain ⟨z1, z2⟩ := ba (List.all_eq_true.mp h2 p hp)
    refine ⟨z1, ?_⟩
    revert z2
    cases h.get? (cT (frK h.get? n) p).2 with
    | none => exact fun z => by cases z
    | some o => exact fun z => ⟨o, rfl, z⟩
  refine ⟨e1, e2, List.all_eq_true.mp h1, fun p hp => (key p hp).1, fun p hp => ?_, fun p hp => ?_, ndB_ok h3⟩
  · obtain ⟨_, o, q, z⟩ := key p hp
    exact frT_none q z
  · obtain ⟨_, o, q, z⟩ := key p hp
    rw [q, emptyTab_eq z]
def hook7 (n : Nat) (fa : List Fa) (fn : List DefD) (er : List (Str × Stmt)) (tf : List Defn) (file : Str) : PySem.W.Hook where
  α := Al7
  obs := fun s => obs7 n fa fn er tf file s.heap.get?
  val := fun _ => val7 fn er
  says := fun w h => ∃ K : PySem.W.Frag, K.In h ∧ Says fa fn er tf file w h K
  of := fun _ _ e => ⟨_, frT_in, says7_of e⟩
  keeps := fun _ _ _ ⟨K, hK, c⟩ k => ⟨K, PySem.W.Frag.In.keeps hK k, ⟨c.d, c.e, c.b, c.hd, c.out, fun p hp => k _ _ (c.empty p hp), c.nd⟩⟩
theorem obs7_eq {n : Nat} {fa : List Fa} {fn : List DefD} {er : List (Str × Stmt)} {tf : List Defn} {file : Str} {g : Addr → Option Obj} {s : Shared} (h : ∀ a, g a = s.heap.get? a) : obs7 n fa fn er tf file g = (hook7 n fa fn er tf file).obs s := by
  have e : g = s.heap.get? := funext h
  rw [e] <;> rfl
end K7
end

section
-- K7Head
set_option Elab.async false
set_option linter.all false
set_option maxRecDepth 100000
set_option maxHeartbeats 0
/-! The head: the top run in the kernel, looked at by the Hook. -/
namespace K7
open PySem PySem.Spec PyProof.Rows L2 He
abbrev dD (x : Str) (st : Stmt) : DefD := ⟨(x, none), x, x, defArgs st, defBody st, defScope st, [], []⟩
def fn : List DefD := [dD "is_integer" sIsInteger, dD "is_number" sIsNumber, dD "is_below" sIsBelow, dD "is_sequence" sIsSequence, dD "is_end" sIsEnd, dD "check_rows" sCheckRows, dD "ends_of" sEndsOf, dD "unsound_three" sUnsoundThree, dD "check_queue" sCheckQueue, dD "places_of" sPlacesOf, dD "mergeable_places" sMergeablePlaces, dD "is_folded" sIsFolded, dD "press_last" sPressLast, dD "plain_steps" sPlainSteps, dD "plain_fold" sPlainFold, dD "plain_way" sPlainWay, dD "can_fold" sCanFold, dD "folded_once" sFoldedOnce, dD "fold_at" sFoldAt, dD "way_end" sWayEnd] ++ [dD "_law_box" sLBox, dD "_law_take" sLTake, dD "_law_pick" sLPick, dD "_law_merger" sLMerger, dD "_law_rows" sLRows, dD "_law_end" sLEnd, dD "_law_is_sound" sLIsSound, dD "_law_queue" sLQueue, dD "_law_once" sLOnce, dD "_law_heard" sLHeard, dD "_law_pile" sLPile, dD "_law_hands_right" sLHandsRight, dD "_law_long_right" sLLongRight, dD "_law_plain_right" sLPlainRight, dD "law" sLaw, ⟨("Merger", some "__init__"), "__init__", "Merger.__init__", defArgs siMerger, defBody siMerger, defScope siMerger, [], []⟩]
def fa : List Fa := [.glo "is_integer", .glo "is_number", .glo "is_below", .glo "is_sequence", .glo "is_end", .glo "check_rows", .glo "ends_of", .glo "unsound_three", .glo "check_queue", .glo "places_of", .glo "mergeable_places", .glo "is_folded", .glo "press_last", .glo "plain_steps", .glo "plain_fold", .glo "plain_way", .glo "can_fold", .glo "folded_once", .glo "fold_at", .glo "way_end"] ++ [.glo "_law_box", .glo "_law_take", .glo "_law_pick", .glo "_law_merger", .glo "_law_rows", .glo "_law_end", .glo "_law_is_sound", .glo "_law_queue", .glo "_law_once", .glo "_law_heard", .glo "_law_pile", .glo "_law_hands_right", .glo "_law_long_right", .glo "_law_plain_right", .glo "law", .glo "BadQueue", .glo "BadWay", .glo "Refused", .glo "TooGreat", .glo "NoCommand"] ++ [.glo "Merger", .free "isinstance", .free "int", .free "bool", .free "list", .free "tuple", .free "len", .free "all", .free "range", .free "enumerate", .free "zip", .free "repr", .free "abs", .free "super", .int "MOST_COMMANDS" 12, .int "MOST_QUEUE" 10000, .int "GONE" (-1), .cls "Merger", .noat "Merger" "commands", .noat "Merger" "rows"] ++ [.mkr "Merger", .exm "Refused" "TooGreat" false, .exm "Refused" "Refused" true, .exm "BadWay" "TooGreat" false, .exm "BadWay" "Refused" false, .exm "BadWay" "BadWay" true, .exm "BadQueue" "TooGreat" false, .exm "BadQueue" "Refused" false, .exm "BadQueue" "BadWay" false, .exm "BadQueue" "BadQueue" true]
def er : List (Str × Stmt) := [("BadQueue", siBadQueue), ("BadWay", siBadWay), ("Refused", siRefused)]
def tf : List Defn := [("_law_hands_right", none), ("law", none)]
def loose1 : List Str := ["FoldError", "BadMerger", "Unsound", "BadQueue", "BadWay", "Refused", "TooGreat", "NoCommand", "MOST_COMMANDS", "MOST_QUEUE", "GONE", "is_integer", "is_number", "is_below", "is_sequence", "is_end", "check_rows", "ends_of", "unsound_three", "Merger", "check_queue", "places_of", "mergeable_places", "is_folded", "press_last"]
def loose2 : List Str := ["plain_steps", "plain_fold", "plain_way", "can_fold", "folded_once", "fold_at", "way_end", "_law_box", "_law_take", "_law_pick", "_law_merger", "_law_rows", "_law_end", "_law_is_sound", "_law_queue", "_law_once", "_law_heard", "_law_pile", "_law_hands_right", "_law_long_right", "_law_plain_right"]
def loose : List Str := loose1 ++ loose2
abbrev R : PySem.W.OpenRow := PySem.W.OpenLaw.row PySem.Challenge.rw_foursfold_k07_whole_hands_and_the_plain
def fileS : Str := "/claim/cut.py"
abbrev hk : PySem.W.Hook := hook7 6 fa fn er tf fileS
def ob (s : PySem.W.SharedT) : Al7 := obs7 6 fa fn er tf fileS (HandSHeadRun.getT s)
theorem ob_eq (s : PySem.W.SharedT) : ob s = hk.obs s.abs := obs7_eq (HandSHeadRun.getT_eq s)
theorem run (w : World) : HandSHeadRun.RunEq R (PySem.W.view R.prog [52]) hk ob 4000 loose w := by
  intro os
  kernel_rfl
end K7
end

section
-- K7End
set_option Elab.async false
set_option linter.all false
set_option maxRecDepth 100000
set_option maxHeartbeats 4000000
/-! The end: facts by names, the promises in a row, the law. -/
namespace K7
open PySem PySem.Spec PyProof.Rows L2 LamX He
section
variable {w : World} {K : PySem.W.Frag} {h : Heap} {mg : Str → Option Value}
theorem def_at (X : K.In h) (G : h.Ns mainGlobals mg) (c : SaysD fa fn K) (i j : Nat) (x : Str) (st : Stmt) (h1 : fn[i]? = some (dD x st)) (h2 : fa[j]? = some (.glo x)) : DefAt K mg x st := by
  obtain ⟨fd, F⟩ := c.def_ i h1
  exact ⟨ga K x, fd, glo_ok X G (c.fact j h2), F⟩
theorem txt_of (X : K.In h) (G : h.Ns mainGlobals mg) (c : SaysD fa fn K) : Txt K mg (ga K "Merger") :=
  ⟨free_ok X G (c.fact 41 (f := .free "isinstance") rfl), free_ok X G (c.fact 42 (f := .free "int") rfl), free_ok X G (c.fact 43 (f := .free "bool") rfl), free_ok X G (c.fact 44 (f := .free "list") rfl), free_ok X G (c.fact 45 (f := .free "tuple") rfl), free_ok X G (c.fact 46 (f := .free "len") rfl), free_ok X G (c.fact 47 (f := .free "all") rfl), free_ok X G (c.fact 48 (f := .free "range") rfl), free_ok X G (c.fact 49 (f := .free "enumerate") rfl), free_ok X G (c.fact 50 (f := .free "zip") rfl), free_ok X G (c.fact 51 (f := .free "repr") rfl), free_ok X G (c.fact 52 (f := .free "abs") rfl), int_ok X G (c.fact 56 (f := .int "GONE" (-1)) rfl), int_ok X G (c.fact 54 (f := .int "MOST_COMMANDS" 12) rfl), int_ok X G (c.fact 55 (f := .int "MOST_QUEUE" 10000) rfl), cls_ok (c.fact 57 (f := .cls "Merger") rfl), noat_ok (c.fact 58 (f := .noat "Merger" "commands") rfl), noat_ok (c.fact 59 (f := .noat "Merger" "rows") rfl), glo_ok X G (c.fact 40 (f := .glo "Merger") rfl)⟩
theorem err_at {tf : List Defn} (X : K.In h) (G : h.Ns mainGlobals mg) (c : Says fa fn er tf fileS w h K) (i j : Nat) (cn : Str) (st : Stmt) (h1 : er[i]? = some (cn, st)) (h2 : fa[j]? = some (.glo cn)) {msg : Str} {p1 p2 q0 q1 q2 q3 q4 q5 r1 r2 r3 r4 : Pos}
    (hA : defArgs st = PySem.K7X.iA p1 p2) (hB : defBody st = PySem.K7X.iB msg q0 q1 q2 q3 q4 q5 r1 r2 r3 r4) (hS : defScope st = PySem.K7X.iS)
    (hev : ∃ pl : Env → Sem Bool, ∀ env : Env, eval (.Call (.Attribute (.Call (.Name "super" q0) [] [] q1) "__init__" q2) [.Constant (.str msg) 0 q3] [] q4) env = (do
      let ov ← attributeBase (.Call (.Name "super" q0) [] [] q1) "__init__" env (eval (.Call (.Name "super" q0) [] [] q1) env)
      standAt q2.atName
      let (f, first) ← holding [ov] (getMethod ov "__init__" (pl env))
      callWith q4 f first (backTo q4 (starEach [.Constant (.str msg) 0 q3] env)) [])) : ErrAt K mg cn (ga K cn) := by
  have e : fnC K cn = errV cn st := by
    have e := c.e
    have e2 : (er.map fun p => fnC K p.1)[i]? = (er.map fun p => errV p.1 p.2)[i]? := by rw [e]
    rw [List.getElem?_map, List.getElem?_map, h1] at e2
    exact Option.some.inj e2
  exact ⟨_, err_of (prog := Pg) e (c.b _ (List.mem_of_getElem? h1)) hA hB hS hev (glo_ok X G (c.d.fact j h2)) (free_ok X G (c.d.fact 53 (f := .free "super") rfl)) (by decide +kernel)⟩
theorem errs_of (X : K.In h) (G : h.Ns mainGlobals mg) (c : Says fa fn er tf fileS w h K) : Errs K mg (ga K "TooGreat") (ga K "Refused") (ga K "BadWay") (ga K "BadQueue") (ga K "NoCommand") :=
  ⟨glo_ok X G (c.d.fact 38 (f := .glo "TooGreat") rfl), glo_ok X G (c.d.fact 39 (f := .glo "NoCommand") rfl),
    err_at X G c 2 37 "Refused" siRefused rfl rfl rfl rfl rfl ⟨_, fun _ => rfl⟩, err_at X G c 1 36 "BadWay" siBadWay rfl rfl rfl rfl rfl ⟨_, fun _ => rfl⟩, err_at X G c 0 35 "BadQueue" siBadQueue rfl rfl rfl rfl rfl ⟨_, fun _ => rfl⟩,
    exm_ok (c.d.fact 61 (f := .exm "Refused" "TooGreat" false) rfl), exm_ok (c.d.fact 62 (f := .exm "Refused" "Refused" true) rfl), exm_ok (c.d.fact 63 (f := .exm "BadWay" "TooGreat" false) rfl), exm_ok (c.d.fact 64 (f := .exm "BadWay" "Refused" false) rfl), exm_ok (c.d.fact 65 (f := .exm "BadWay" "BadWay" true) rfl), exm_ok (c.d.fact 66 (f := .exm "BadQueue" "TooGreat" false) rfl), exm_ok (c.d.fact 67 (f := .exm "BadQueue" "Refused" false) rfl), exm_ok (c.d.fact 68 (f := .exm "BadQueue" "BadWay" false) rfl), exm_ok (c.d.fact 69 (f := .exm "BadQueue" "BadQueue" true) rfl)⟩
theorem tab_of {base : Heap} (c : ∀ p ∈ tf.map (cT K), TabB base mg p.1 p.2) (x : Str) (st : Stmt) (hx : ((x, none) : Defn) ∈ tf) (hm : mg x = some (.ref (ga K x))) : ∀ (f : Addr) (fd : FuncData) (cc : Addr), mg x = some (.ref f) → FnP K x st f fd → fd.code = .ref cc → TabB base mg cc (cT K (x, none)).2 := by
  intro f fd cc h1 F h2
  obtain ⟨oc, od, dV, kV, doc, pm, an, cdv, ct, osl, e, lk, _⟩ := F.ex
  rw [hm] at h1
  cases h1
  have z : codeOf K ((x, none) : Defn) = cc := by
    subst e
    exact codeOf_eq (p := (x, none)) (show K.lookup (fAd K (x, none)) = _ from lk) h2
  have q := c _ (List.mem_map.mpr ⟨_, hx, rfl⟩)
  rw [← z]
  exact q
/-- all promises, one by one -/
theorem all_ok {base : Heap} {fl : Addr} {fdl : FuncData} (X : K.In h) (G : h.Ns mainGlobals mg) (c : Says fa fn er tf fileS w h K) (hml : mg "law" = some (.ref fl)) (Fl : FnP K "law" sLaw fl fdl) (TB : ∀ p ∈ tf.map (cT K), TabB base mg p.1 p.2) :
    FnG Pg w K mg base CX0 10 fl fdl ["_law_script"] (spLaw K [((cT K ("_law_hands_right", none)).2, qHR), ((cT K ("law", none)).2, qLw)]) := by
  have T := txt_of X G c.d
  have Er := errs_of X G c
  have ne : (cT K ("_law_hands_right", none)).2 ≠ (cT K ("law", none)).2 := by
    have z : [(cT K ("_law_hands_right", none)).2, (cT K ("law", none)).2].Nodup := c.nd
    intro e
    rw [e] at z
    simp at z
  have D_is_integer : DefAt K mg "is_integer" sIsInteger := def_at X G c.d 0 0 "is_integer" sIsInteger rfl rfl
  have D_is_number : DefAt K mg "is_number" sIsNumber := def_at X G c.d 1 1 "is_number" sIsNumber rfl rfl
  have D_is_below : DefAt K mg "is_below" sIsBelow := def_at X G c.d 2 2 "is_below" sIsBelow rfl rfl
  have D_is_sequence : DefAt K mg "is_sequence" sIsSequence := def_at X G c.d 3 3 "is_sequence" sIsSequence rfl rfl
  have D_is_end : DefAt K mg "is_end" sIsEnd := def_at X G c.d 4 4 "is_end" sIsEnd rfl rfl
  have D_check_rows : DefAt K mg "check_rows" sCheckRows := def_at X G c.d 5 5 "check_rows" sCheckRows rfl rfl
  have D_ends_of : DefAt K mg "ends_of" sEndsOf := def_at X G c.d 6 6 "ends_of" sEndsOf rfl rfl
  have D_unsound_three : DefAt K mg "unsound_three" sUnsoundThree := def_at X G c.d 7 7 "unsound_three" sUnsoundThree rfl rfl
  have D_check_queue : DefAt K mg "check_queue" sCheckQueue := def_at X G c.d 8 8 "check_queue" sCheckQueue rfl rfl
  have D_places_of : DefAt K mg "places_of" sPlacesOf := def_at X G c.d 9 9 "places_of" sPlacesOf rfl rfl
  have D_mergeable_places : DefAt K mg "mergeable_places" sMergeablePlaces := def_at X G c.d 10 10 "mergeable_places" sMergeablePlaces rfl rfl
  have D_is_folded : DefAt K mg "is_folded" sIsFolded := def_at X G c.d 11 11 "is_folded" sIsFolded rfl rfl
  have D_press_last : DefAt K mg "press_last" sPressLast := def_at X G c.d 12 12 "press_last" sPressLast rfl rfl
  have D_plain_steps : DefAt K mg "plain_steps" sPlainSteps := def_at X G c.d 13 13 "plain_steps" sPlainSteps rfl rfl
  have D_plain_fold : DefAt K mg "plain_fold" sPlainFold := def_at X G c.d 14 14 "plain_fold" sPlainFold rfl rfl
  have D_plain_way : DefAt K mg "plain_way" sPlainWay := def_at X G c.d 15 15 "plain_way" sPlainWay rfl rfl
  have D_can_fold : DefAt K mg "can_fold" sCanFold := def_at X G c.d 16 16 "can_fold" sCanFold rfl rfl
  have D_folded_once : DefAt K mg "folded_once" sFoldedOnce := def_at X G c.d 17 17 "folded_once" sFoldedOnce rfl rfl
  have D_fold_at : DefAt K mg "fold_at" sFoldAt := def_at X G c.d 18 18 "fold_at" sFoldAt rfl rfl
  have D_way_end : DefAt K mg "way_end" sWayEnd := def_at X G c.d 19 19 "way_end" sWayEnd rfl rfl
  have D__law_box : DefAt K mg "_law_box" sLBox := def_at X G c.d 20 20 "_law_box" sLBox rfl rfl
  have D__law_take : DefAt K mg "_law_take" sLTake := def_at X G c.d 21 21 "_law_take" sLTake rfl rfl
  have D__law_pick : DefAt K mg "_law_pick" sLPick := def_at X G c.d 22 22 "_law_pick" sLPick rfl rfl
  have D__law_merger : DefAt K mg "_law_merger" sLMerger := def_at X G c.d 23 23 "_law_merger" sLMerger rfl rfl
  have D__law_rows : DefAt K mg "_law_rows" sLRows := def_at X G c.d 24 24 "_law_rows" sLRows rfl rfl
  have D__law_end : DefAt K mg "_law_end" sLEnd := def_at X G c.d 25 25 "_law_end" sLEnd rfl rfl
  have D__law_is_sound : DefAt K mg "_law_is_sound" sLIsSound := def_at X G c.d 26 26 "_law_is_sound" sLIsSound rfl rfl
  have D__law_queue : DefAt K mg "_law_queue" sLQueue := def_at X G c.d 27 27 "_law_queue" sLQueue rfl rfl
  have D__law_once : DefAt K mg "_law_once" sLOnce := def_at X G c.d 28 28 "_law_once" sLOnce rfl rfl
  have D__law_heard : DefAt K mg "_law_heard" sLHeard := def_at X G c.d 29 29 "_law_heard" sLHeard rfl rfl
  have D__law_pile : DefAt K mg "_law_pile" sLPile := def_at X G c.d 30 30 "_law_pile" sLPile rfl rfl
  have D__law_hands_right : DefAt K mg "_law_hands_right" sLHandsRight := def_at X G c.d 31 31 "_law_hands_right" sLHandsRight rfl rfl
  have D__law_long_right : DefAt K mg "_law_long_right" sLLongRight := def_at X G c.d 32 32 "_law_long_right" sLLongRight rfl rfl
  have D__law_plain_right : DefAt K mg "_law_plain_right" sLPlainRight := def_at X G c.d 33 33 "_law_plain_right" sLPlainRight rfl rfl
  have G_is_integer := ok_isInteger (w := w) (base := base) D_is_integer T 
  have G_is_number := ok_isNumber (w := w) (base := base) D_is_number T G_is_integer
  have G_is_below := ok_isBelow (w := w) (base := base) D_is_below T G_is_number
  have G_is_sequence := ok_isSequence (w := w) (base := base) D_is_sequence T 
  have G_is_end := ok_isEnd (w := w) (base := base) D_is_end T G_is_integer
  have G_ends_of := ok_endsOf (w := w) (base := base) D_ends_of T 
  have G_unsound_three := ok_unsoundThree (w := w) (base := base) D_unsound_three T G_ends_of
  have G_check_rows := ok_checkRows (w := w) (base := base) D_check_rows T G_is_sequence G_is_end
  have G_check_queue := ok_checkQueue (w := w) (base := base) D_check_queue T Er.eQ G_is_sequence G_is_below
  have G_can_fold := ok_canFold (w := w) (base := base) D_can_fold T G_is_below
  have G_folded_once := ok_foldedOnce (w := w) (base := base) D_folded_once T 
  have G_fold_at := ok_foldAt (w := w) (base := base) D_fold_at T Er.eR G_check_queue G_can_fold G_folded_once
  have G_way_end := ok_wayEnd (w := w) (base := base) D_way_end T Er.eW G_is_sequence G_check_queue G_can_fold G_folded_once
  have G_press_last := ok_pressLast (w := w) (base := base) D_press_last T 
  have G_plain_steps := ok_plainSteps (w := w) (base := base) D_plain_steps T G_press_last
  have G_plain_fold := ok_plainFold (w := w) (base := base) D_plain_fold T G_check_queue G_plain_steps
  have G_plain_way := ok_plainWay (w := w) (base := base) D_plain_way T G_check_queue G_plain_steps
  have G_places_of := ok_placesOf (w := w) (base := base) D_places_of T 
  have G_mergeable_places := ok_mergeable (w := w) (base := base) D_mergeable_places T G_check_queue G_places_of
  have G_is_folded := ok_isFolded (w := w) (base := base) D_is_folded T G_mergeable_places
  have G__law_take := ok_take (w := w) (base := base) D__law_take T 
  have G__law_pick := ok_pick (w := w) (base := base) D__law_pick T G__law_take
  have G__law_box := ok_box (w := w) (base := base) D__law_box T 
  have G__law_end := ok_lend (w := w) (base := base) D__law_end T 
  have G__law_is_sound := ok_lsound (w := w) (base := base) D__law_is_sound T G__law_end
  have G__law_queue := ok_lqueue (w := w) (base := base) D__law_queue T G__law_take
  have G__law_once := ok_lonce (w := w) (base := base) D__law_once T 
  have G__law_pile := ok_lpile (w := w) (base := base) D__law_pile T 
  have G__law_rows := ok_lrows (w := w) (base := base) D__law_rows T G__law_take
  have G__law_merger := ok_lmerger (w := w) (base := base) D__law_merger T G__law_rows G__law_is_sound
  have G__law_long_right := ok_llong (w := w) (base := base) D__law_long_right T G__law_take G_plain_fold
  have G__law_plain_right := ok_lplain (w := w) (base := base) D__law_plain_right T G_plain_fold G_plain_way G_way_end G_is_folded G__law_pile
  have M : MkAt w K mg base (ga K "Merger") := by
    obtain ⟨fd, F⟩ := c.d.def_ 35 (d := ⟨("Merger", some "__init__"), "__init__", "Merger.__init__", defArgs siMerger, defBody siMerger, defScope siMerger, [], []⟩) rfl
    exact ⟨_, fd, mkr_ok (c.d.fact 60 (f := .mkr "Merger") rfl), F.bindsN (ps := ["self", "rows"]) fun _ _ _ _ _ _ us hl => match us, hl with | [_, _], _ => rfl, ok_init (w := w) (base := base) F T G_check_rows G_unsound_three⟩
  have G_hands := ok_hands (w := w) (base := base) (Pt := (cT K ("_law_hands_right", none)).2) (Ts := [((cT K ("_law_hands_right", none)).2, qHR), ((cT K ("law", none)).2, qLw)]) D__law_hands_right T Er D__law_heard
    (tab_of TB "_law_hands_right" sLHandsRight (List.mem_cons_self) (glo_ok X G (c.d.fact 31 (f := .glo "_law_hands_right") rfl))) List.mem_cons_self (fun p hp e => by
      simp only [List.mem_cons, List.not_mem_nil, or_false] at hp
      rcases hp with rfl | rfl
      · rfl
      · exact absurd e.symm ne) G_fold_at G_way_end G__law_take G__law_pick G__law_once
  exact ok_law (w := w) (base := base) (Pt := (cT K ("law", none)).2) hml Fl T Er D__law_heard M
    (tab_of TB "law" sLaw (List.mem_cons_of_mem _ List.mem_cons_self) (glo_ok X G (c.d.fact 34 (f := .glo "law") rfl))) (List.mem_cons_of_mem _ List.mem_cons_self) (fun p hp e => by
      simp only [List.mem_cons, List.not_mem_nil, or_false] at hp
      rcases hp with rfl | rfl
      · exact absurd e ne
      · rfl) G_fold_at G_way_end G_plain_fold G_plain_way G__law_take G__law_pick G__law_box G__law_merger G__law_queue G__law_long_right G_hands G__law_plain_right
theorem law_at {fl : Addr} (X : K.In h) (G : h.Ns mainGlobals mg) (c : Says fa fn er tf fileS w h K) (hml : mg "law" = some (.ref fl)) : LawAtG PySem.Challenge.rw_foursfold_k07_whole_hands_and_the_plain w K CX0 10 63 "_law_script" mg fl h := by
  obtain ⟨fd, F⟩ := c.d.def_ 34 (d := dD "law" sLaw) rfl
  have e := hml.symm.trans (glo_ok X G (c.d.fact 34 (f := .glo "law") rfl))
  cases e
  have b := FunD.bindsA (ps := ["_law_script"]) F fun _ _ _ _ _ _ us hl => match us, hl with | [_], _ => rfl
  refine ⟨fd, tf.map (cT K), spLaw K [((cT K ("_law_hands_right", none)).2, qHR), ((cT K ("law", none)).2, qLw)], fun p hp => ?_, fun p hp => ?_, fun p hp => ?_, fun s u => b s [u] rfl, fun H a ns hl _ hT hS => ⟨a, ns, rfl, hS, hl, fun p hp => ?_, fun _ => rfl⟩, fun base _ _ TB => all_ok X G c hml F TB⟩
  · obtain ⟨q, hq, rfl⟩ := List.mem_map.mp hp
    exact c.empty q hq
  · obtain ⟨q, hq, rfl⟩ := List.mem_map.mp hp
    exact c.out q hq
  · obtain ⟨q, hq, rfl⟩ := List.mem_map.mp hp
    exact PySem.W.codeHd_of_K X (c.hd q hq)
  · simp only [List.mem_cons, List.not_mem_nil, or_false] at hp
    rcases hp with rfl | rfl
    · exact LamX.TabS.nil (hT _ (List.mem_map.mpr ⟨_, List.mem_cons_self, rfl⟩))
    · exact LamX.TabS.nil (hT _ (List.mem_map.mpr ⟨_, List.mem_cons_of_mem _ List.mem_cons_self, rfl⟩))
end
end K7
open PySem PySem.W PySem.Calls PyProof.Rows
theorem PySem.Challenge.cw_foursfold_k07_whole_hands_and_the_plain_holds : PySem.Challenge.rw_foursfold_k07_whole_hands_and_the_plain.Holds := by
  w_on; o_law
  refine HandSHeadRun.head_any (r := OpenLaw.row PySem.Challenge.rw_foursfold_k07_whole_hands_and_the_plain) (q := view (OpenLaw.row PySem.Challenge.rw_foursfold_k07_whole_hands_and_the_plain).prog [52]) (H := K7.hk) (ob := K7.ob) (M := 4000) (loose := K7.loose) (d := HandSHeadRun.topDef (OpenLaw.row PySem.Challenge.rw_foursfold_k07_whole_hands_and_the_plain).prog 52) (kwd := []) K7.ob_eq
    (by kernel_rfl) (fun s => by kernel_rfl) K7.run (by kernel_rfl) (by kernel_rfl) (by kernel_rfl) (by rfl) (by first | assumption | decide +kernel) (by decide +kernel) ⟨rfl, rfl, rfl, rfl, rfl, by decide +kernel⟩ ?hw ?hc
  case hw => w_witness2
  case hc =>
    refine K7.walk_ofG (l := PySem.Challenge.rw_foursfold_k07_whole_hands_and_the_plain) (n := 63) (k := 10) (x := "_law_script") (CX := fun _ => L2.CX0) rfl (by decide) (by kernel_rfl) ⟨rfl, by decide, by decide⟩ ?F (fun _ _ _ _ _ z => z)
    intro w mg fa h Y G hmg0
    obtain ⟨K, KX, c⟩ := Y
    have hmg : mg ("law" : PySem.Str) = some (.ref fa) := by
      have e : (HandSHeadRun.topDef (OpenLaw.row PySem.Challenge.rw_foursfold_k07_whole_hands_and_the_plain).prog 52).name = ("law" : PySem.Str) := by kernel_rfl
      rw [← e]
      exact hmg0
    exact ⟨K, KX, K7.law_at KX G c hmg⟩
end
