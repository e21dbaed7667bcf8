import PyProof.Rows.All
import Wide.All
import OpenK.AllK
import Wide.FinOn
import HandS.ForMost
import HandS.ForExc
import HandS.Style
import HandS.Conv
import HandS.NoneIn
import HandS.Flow
import HandS.More
import HandS.ExcIs
import HandS.IsInst
import HandS.SortInts
import HandS.Zip
import HandS.Evl
import PySem.Challenge.RW_ringfloor_k56_whole_turn_over
set_option Elab.async false
set_option linter.all false
set_option maxRecDepth 100000
set_option maxHeartbeats 4000000

/-! Mathematics: drawings as lists of rows of ends. No program here. -/
namespace RF
abbrev Dr := List (List Int)
/-- the other end of an end's tie -/
def mt (e : Int) : Int := e + 1 - 2 * (e % 2)
theorem mt_mt (e : Int) : mt (mt e) = e := by unfold mt; omega
theorem mt_ne (e : Int) : mt e ≠ e := by unfold mt; omega
theorem mt_div (e : Int) : mt e / 2 = e / 2 := by unfold mt; omega
theorem mt_of_div {e f : Int} (h : e / 2 = f / 2) (n : e ≠ f) : f = mt e := by unfold mt; omega
theorem mt_lo {e : Int} (h : 0 ≤ e) : 0 ≤ mt e := by unfold mt; omega
theorem mt_hi {e : Int} {m : Nat} (h : e < 2 * m) : mt e < 2 * m := by unfold mt; omega
/-- each of the ends 0 .. 2 m - 1 stands just once -/
structure Valid (D : Dr) (m : Nat) : Prop where
  nd : D.flatten.Nodup
  rg : ∀ e ∈ D.flatten, 0 ≤ e ∧ e < 2 * m
  ln : D.flatten.length = 2 * m
/-- the place of an end -/
def seat (D : Dr) (e : Int) : Nat := D.findIdx fun r => decide (e ∈ r)
/-- the end behind an end -/
def sig (D : Dr) (e : Int) : Int := (D.getD (seat D e) []).getD (((D.getD (seat D e) []).idxOf e + 1) % (D.getD (seat D e) []).length) 0
/-- the one ahead in a walk (the last one ahead of the first one) -/
def prv (T : List Int) (i : Nat) : Int := T.getD (if i = 0 then T.length - 1 else i - 1) 0
structure IsWalk (D : Dr) (m : Nat) (T : List Int) : Prop where
  rg : ∀ e ∈ T, 0 ≤ e ∧ e < 2 * m
  st : ∀ i, i < T.length → seat D (mt (prv T i)) = seat D (T.getD i 0)
structure IsTurn (D : Dr) (m : Nat) (T : List Int) : Prop where
  ne : T ≠ []
  wk : IsWalk D m T
  ps : (T.map (seat D)).Nodup
  ts : (T.map (· / 2)).Nodup
/-- what can be come to along the lands' steps and over ties off the round -/
inductive Reach (D : Dr) (T : List Int) (x : Int) : Int → Prop
  | base : Reach D T x x
  | step {e : Int} : Reach D T x e → Reach D T x (sig D (mt e))
  | cross {e : Int} : Reach D T x e → e / 2 ∉ T.map (· / 2) → Reach D T x (mt e)
def Parted (D : Dr) (T : List Int) : Prop := ¬ Reach D T (T.getD 0 0) (mt (T.getD 0 0))
/-- one list is the other one begun elsewhere -/
def Rot (r r' : List Int) : Prop := ∃ u v, r = u ++ v ∧ r' = v ++ u
/-- the ring at the i-th place of a round: it comes by a, has L at the left, goes by b, has R at the right -/
structure Ring (D : Dr) (T : List Int) (i : Nat) (L R : List Int) : Prop where
  lt : i < T.length
  rot : Rot (D.getD (seat D (T.getD i 0)) []) (mt (prv T i) :: (L ++ T.getD i 0 :: R))
def Lft (D : Dr) (T : List Int) (e : Int) : Prop := ∃ i L R, Ring D T i L R ∧ e ∈ L
open Classical in
/-- how many visits have an end at their left -/
noncomputable def cnt (D : Dr) (T : List Int) (e : Int) : Int := if Lft D T e then 1 else 0
noncomputable def crossing (D : Dr) (T V : List Int) : Int := (V.map fun e => cnt D T e - cnt D T (mt e)).sum
/-- the drawing cut along a round -/
structure IsCut (D : Dr) (T : List Int) (m : Nat) (C : Dr) : Prop where
  len : C.length = D.length + T.length
  off : ∀ p, p < D.length → p ∉ T.map (seat D) → C[p]? = D[p]?
  on : ∀ i, i < T.length → ∃ L R, Ring D T i L R ∧ (C.getD (seat D (T.getD i 0)) []).Perm (mt (prv T i) :: (L ++ [T.getD i 0])) ∧
    (C.getD (D.length + i) []).Perm ((2 * m + 2 * i : Int) :: (R ++ [(2 * m + 2 * (if i = 0 then T.length - 1 else i - 1 : Nat) + 1 : Int)]))
/-- a way from a place to a place -/
def Path (D : Dr) : Nat → List Int → Nat → Prop
  | p, [], q => p = q
  | p, e :: w, q => e ∈ D.getD p [] ∧ Path D (seat D (mt e)) w q
/-- what a search in breadth leaves: nr the end that leads nearer (-1 at the root), d how far -/
structure Tree (D : Dr) (r : Nat) (nr : Nat → Option Int) (d : Nat → Nat) : Prop where
  root : nr r = some (-1)
  d0 : d r = 0
  up : ∀ p e, p ≠ r → nr p = some e → 0 ≤ e ∧ e ∈ D.getD p [] ∧ nr (seat D (mt e)) ≠ none ∧ d p = d (seat D (mt e)) + 1
  cl : ∀ p, nr p ≠ none → ∀ e ∈ D.getD p [], nr (seat D (mt e)) ≠ none ∧ d (seat D (mt e)) ≤ d p + 1
  bd : ∀ p, nr p ≠ none → d p ≤ D.length
/-- the end of the drawing of which an end of the cut drawing is a copy, or itself -/
def oldE (T : List Int) (m : Nat) (e : Int) : Int := if e < 2 * m then e else if e % 2 = 1 then mt (T.getD ((e - 2 * m) / 2).toNat 0) else T.getD ((e - 2 * m) / 2).toNat 0
def over (T : List Int) (m : Nat) (w : List Int) : List Int := ((w.map (oldE T m)).reverse).map mt
/-- the rings of steps -/
inductive Orb (D : Dr) (x : Int) : Int → Prop
  | base : Orb D x x
  | step {e : Int} : Orb D x e → Orb D x (sig D (mt e))
structure Lands (D : Dr) (Ls : Dr) : Prop where
  mem : ∀ e, e ∈ Ls.flatten ↔ e ∈ D.flatten
  nd : Ls.flatten.Nodup
  cl : ∀ l ∈ Ls, ∀ e ∈ l, sig D (mt e) ∈ l
  one : ∀ l ∈ Ls, ∀ e ∈ l, ∀ f ∈ l, Orb D e f
def Rows (D' D : Dr) : Prop := D'.length = D.length ∧ ∀ (i : Nat) (r r' : List Int), D[i]? = some r → D'[i]? = some r' → r'.Perm r
/-- a new end stood ahead of an end -/
def insB (x n : Int) (r : List Int) : List Int := if x ∈ r then r.take (r.idxOf x) ++ [n] ++ r.drop (r.idxOf x) else r
def tie (D : Dr) (n x y : Int) : Dr := (D.map (insB x n)).map (insB y (n + 1))
def Good (D : Dr) : Prop := ∃ m, Valid D m ∧ m ≤ 1000 ∧ D.length ≤ 1000
def Drawn (ps ss : List Int) : Prop := ps.length = ss.length ∧ ∀ (i : Nat) (p s : Int), ps[i]? = some p → ss[i]? = some s → 0 ≤ p ∧ p < s
end RF

/-! Mathematics: places, what is behind, validity. -/
namespace RF
theorem mem_flat {D : Dr} {e : Int} : e ∈ D.flatten ↔ ∃ (p : Nat) (r : List Int), D[p]? = some r ∧ e ∈ r := by
  rw [List.mem_flatten]
  constructor
  · rintro ⟨r, hr, he⟩
    obtain ⟨p, hp⟩ := List.mem_iff_getElem?.mp hr
    exact ⟨p, r, hp, he⟩
  · rintro ⟨p, r, hp, he⟩
    exact ⟨r, List.mem_of_getElem? hp, he⟩
theorem nodup_row {D : Dr} (h : D.flatten.Nodup) {p : Nat} {r : List Int} (hr : D[p]? = some r) : r.Nodup := by
  have := List.pairwise_flatten.mp h
  exact this.1 r (List.mem_of_getElem? hr)
theorem row_inj {D : Dr} (h : D.flatten.Nodup) {p q : Nat} {r s : List Int} {e : Int} (hr : D[p]? = some r) (hs : D[q]? = some s) (he : e ∈ r) (hf : e ∈ s) : p = q := by
  have hp := (List.pairwise_flatten.mp h).2
  rw [List.pairwise_iff_getElem] at hp
  obtain ⟨hp1, hp2⟩ := List.getElem?_eq_some_iff.mp hr
  obtain ⟨hq1, hq2⟩ := List.getElem?_eq_some_iff.mp hs
  rcases Nat.lt_trichotomy p q with hlt | heq | hgt
  · exact absurd rfl (hp p q hp1 hq1 hlt e (hp2 ▸ he) e (hq2 ▸ hf))
  · exact heq
  · exact absurd rfl (hp q p hq1 hp1 hgt e (hq2 ▸ hf) e (hp2 ▸ he))
theorem seat_of {D : Dr} (h : D.flatten.Nodup) {p : Nat} {r : List Int} {e : Int} (hr : D[p]? = some r) (he : e ∈ r) : seat D e = p := by
  unfold seat
  obtain ⟨hp1, hp2⟩ := List.getElem?_eq_some_iff.mp hr
  rw [List.findIdx_eq hp1]
  refine ⟨by rw [hp2]; exact decide_eq_true he, fun j hj => ?_⟩
  have hjl : j < D.length := by omega
  cases hb : decide (e ∈ D[j]) with
  | false => rfl
  | true =>
    have := row_inj h (List.getElem?_eq_getElem hjl) hr (of_decide_eq_true hb) he
    omega
theorem seat_at {D : Dr} {e : Int} (h : e ∈ D.flatten) : ∃ r, D[seat D e]? = some r ∧ e ∈ r := by
  obtain ⟨p, r, hp, he⟩ := mem_flat.mp h
  have hlt : seat D e < D.length := by
    unfold seat
    rw [List.findIdx_lt_length]
    exact ⟨r, List.mem_of_getElem? hp, decide_eq_true he⟩
  refine ⟨D[seat D e], List.getElem?_eq_getElem hlt, ?_⟩
  have := List.findIdx_getElem (p := fun r => decide (e ∈ r)) (xs := D) (w := hlt)
  exact of_decide_eq_true this
theorem getD_of {α : Type} {l : List α} {d x : α} {i : Nat} (h : l[i]? = some x) : l.getD i d = x := by rw [List.getD_eq_getElem?_getD, h]; rfl
theorem seat_lt {D : Dr} {e : Int} (h : e ∈ D.flatten) : seat D e < D.length := by
  obtain ⟨r, hr, _⟩ := seat_at h
  exact (List.getElem?_eq_some_iff.mp hr).1
theorem mem_seat {D : Dr} {e : Int} (h : e ∈ D.flatten) : e ∈ D.getD (seat D e) [] := by
  obtain ⟨r, hr, he⟩ := seat_at h
  rw [getD_of hr]; exact he
theorem mem_of_getD {D : Dr} {p : Nat} {e : Int} (h : e ∈ D.getD p []) : ∃ r, D[p]? = some r ∧ e ∈ r := by
  rw [List.getD_eq_getElem?_getD] at h
  cases hr : D[p]? with
  | none => rw [hr] at h; exact absurd h (by simp)
  | some r => rw [hr] at h; exact ⟨r, rfl, h⟩
theorem seat_of' {D : Dr} (h : D.flatten.Nodup) {p : Nat} {e : Int} (he : e ∈ D.getD p []) : seat D e = p := by
  obtain ⟨r, hr, he⟩ := mem_of_getD he
  exact seat_of h hr he
theorem flat_of_getD {D : Dr} {p : Nat} {e : Int} (h : e ∈ D.getD p []) : e ∈ D.flatten := by
  obtain ⟨r, hr, he⟩ := mem_of_getD h
  exact mem_flat.mpr ⟨p, r, hr, he⟩
/-- a list without doubles within another one is no longer -/
theorem nodup_len {α : Type} [DecidableEq α] : ∀ {l m : List α}, l.Nodup → (∀ x ∈ l, x ∈ m) → l.length ≤ m.length
  | [], _, _, _ => Nat.zero_le _
  | x :: l, m, h, hs => by
    have hx : x ∈ m := hs x List.mem_cons_self
    have hn := List.nodup_cons.mp h
    have ih := nodup_len (l := l) (m := m.erase x) hn.2 (fun y hy => by
      have hne : y ≠ x := by rintro rfl; exact hn.1 hy
      exact (List.mem_erase_of_ne hne).mpr (hs y (List.mem_cons_of_mem _ hy)))
    rw [List.length_erase_of_mem hx] at ih
    have : 0 < m.length := List.length_pos_of_mem hx
    rw [List.length_cons]; omega
/-- and, as long, it has all of it -/
theorem nodup_all {α : Type} [DecidableEq α] {l m : List α} (h : l.Nodup) (hs : ∀ x ∈ l, x ∈ m) (hl : m.length ≤ l.length) : ∀ x ∈ m, x ∈ l := by
  intro x hx
  by_cases hxl : x ∈ l
  · exact hxl
  · have := nodup_len (l := x :: l) (m := m) (List.nodup_cons.mpr ⟨hxl, h⟩) (fun y hy => by
      rcases List.mem_cons.mp hy with rfl | hy
      · exact hx
      · exact hs y hy)
    rw [List.length_cons] at this; omega
def rng (n : Nat) : List Int := (List.range n).map fun i : Nat => (i : Int)
theorem mem_rng {n : Nat} {e : Int} : e ∈ rng n ↔ 0 ≤ e ∧ e < n := by
  unfold rng
  rw [List.mem_map]
  constructor
  · rintro ⟨i, hi, rfl⟩
    have := List.mem_range.mp hi
    omega
  · rintro ⟨h0, h1⟩
    exact ⟨e.toNat, List.mem_range.mpr (by omega), by omega⟩
theorem len_rng (n : Nat) : (rng n).length = n := by unfold rng; rw [List.length_map, List.length_range]
theorem nodup_rng (n : Nat) : (rng n).Nodup := by
  unfold rng
  exact List.pairwise_map.mpr (List.nodup_range.imp fun {a b} h e => h (by omega))
theorem Valid.mem {D : Dr} {m : Nat} (h : Valid D m) {e : Int} (h0 : 0 ≤ e) (h1 : e < 2 * m) : e ∈ D.flatten :=
  nodup_all (m := rng (2 * m)) h.nd (fun x hx => mem_rng.mpr (by have := h.rg x hx; omega)) (by rw [len_rng, h.ln]; exact Nat.le_refl _) e (mem_rng.mpr ⟨h0, by omega⟩)
theorem Valid.iff {D : Dr} {m : Nat} (h : Valid D m) {e : Int} : e ∈ D.flatten ↔ 0 ≤ e ∧ e < 2 * m := ⟨h.rg e, fun k => h.mem k.1 k.2⟩
theorem valid_of {D : Dr} {m : Nat} (nd : D.flatten.Nodup) (h : ∀ e, e ∈ D.flatten ↔ 0 ≤ e ∧ e < 2 * (m : Int)) : Valid D m := by
  refine ⟨nd, fun e he => (h e).mp he, ?_⟩
  have a := nodup_len (m := rng (2 * m)) nd fun x hx => mem_rng.mpr (by have := (h x).mp hx; omega)
  have b := nodup_len (l := rng (2 * m)) (m := D.flatten) (nodup_rng _) fun x hx => (h x).mpr (by have := mem_rng.mp hx; omega)
  rw [len_rng] at a b
  omega
theorem Valid.mt {D : Dr} {m : Nat} (h : Valid D m) {e : Int} (he : e ∈ D.flatten) : mt e ∈ D.flatten := by
  have := h.iff.mp he
  exact h.iff.mpr ⟨mt_lo this.1, mt_hi this.2⟩
/-- an ordering of the rows, or of one row, leaves it valid -/
theorem valid_perm {D D' : Dr} {m : Nat} (h : Valid D m) (p : D'.flatten.Perm D.flatten) : Valid D' m :=
  ⟨p.nodup_iff.mpr h.nd, fun e he => h.rg e (p.mem_iff.mp he), by rw [p.length_eq]; exact h.ln⟩
theorem perm_flat {D D' : Dr} (h : D.Perm D') : D.flatten.Perm D'.flatten := h.flatten
theorem rows_flat : ∀ {D D' : Dr}, Rows D' D → D'.flatten.Perm D.flatten
  | [], [], _ => List.Perm.refl _
  | [], _ :: _, h => by simp [Rows] at h
  | _ :: _, [], h => by simp [Rows] at h
  | r :: D, r' :: D', h => by
    have h0 := h.2 0 r r' rfl rfl
    have ih := rows_flat (D := D) (D' := D') ⟨by have := h.1; simpa using this, fun i a b ha hb => h.2 (i + 1) a b ha hb⟩
    rw [List.flatten_cons, List.flatten_cons]
    exact h0.append ih
theorem rows_valid {D D' : Dr} {m : Nat} (h : Valid D m) (p : Rows D' D) : Valid D' m := valid_perm h (rows_flat p)
theorem len_flat {D : Dr} : D.flatten.length = (D.map List.length).sum := List.length_flatten
/-- the ends ahead of one, row by row -/
theorem ahead {D : Dr} (h : D.flatten.Nodup) {i t : Nat} {r : List Int} {z : Int} (hr : D[i]? = some r) (hz : r[t]? = some z) : z ∉ (D.take i).flatten ++ r.take t := by
  obtain ⟨h1, h2⟩ := List.getElem?_eq_some_iff.mp hr
  obtain ⟨h3, h4⟩ := List.getElem?_eq_some_iff.mp hz
  have e1 : D = D.take i ++ r :: D.drop (i + 1) := by
    have := (List.take_append_drop i D).symm
    rw [List.drop_eq_getElem_cons h1, h2] at this
    exact this
  have e2 : r = r.take t ++ z :: r.drop (t + 1) := by
    have := (List.take_append_drop t r).symm
    rw [List.drop_eq_getElem_cons h3, h4] at this
    exact this
  rw [e1, List.flatten_append, List.flatten_cons, e2, List.append_assoc, ← List.append_assoc, List.cons_append] at h
  obtain ⟨_, _, h5⟩ := List.nodup_append.mp h
  exact fun q => h5 z q z List.mem_cons_self rfl
theorem take_flat {D : Dr} {i : Nat} {r : List Int} (hr : D[i]? = some r) : (D.take (i + 1)).flatten = (D.take i).flatten ++ r := by
  rw [List.take_add_one, hr, List.flatten_append]
  show _ ++ List.flatten [r] = _
  rw [List.flatten_cons, List.flatten_nil, List.append_nil]
theorem take_flat_le {D : Dr} {m i : Nat} (h : Valid D m) : (D.take i).flatten.length ≤ 2 * m := by
  have : D.flatten = (D.take i).flatten ++ (D.drop i).flatten := by rw [← List.flatten_append, List.take_append_drop]
  have := congrArg List.length this
  rw [List.length_append, h.ln] at this
  omega
theorem Valid.rowlen {D : Dr} {m p : Nat} {r : List Int} (h : Valid D m) (hr : D[p]? = some r) : r.length ≤ 2 * m := by
  have := nodup_len (m := D.flatten) (nodup_row h.nd hr) fun x hx => mem_flat.mpr ⟨_, _, hr, hx⟩
  rw [h.ln] at this; exact this
theorem nodup_ix {α : Type} {l : List α} (h : l.Nodup) {i j : Nat} {x : α} (hi : l[i]? = some x) (hj : l[j]? = some x) : i = j := by
  obtain ⟨i1, i2⟩ := List.getElem?_eq_some_iff.mp hi
  obtain ⟨j1, j2⟩ := List.getElem?_eq_some_iff.mp hj
  have hp := List.pairwise_iff_getElem.mp h
  rcases Nat.lt_trichotomy i j with hlt | heq | hgt
  · exact absurd (i2.trans j2.symm) (hp i j i1 j1 hlt)
  · exact heq
  · exact absurd (j2.trans i2.symm) (hp j i j1 i1 hgt)
end RF

/-! Mathematics: a search in breadth. -/
namespace RF
structure Bf (D : Dr) (r i t : Nat) (ws : List Nat) (nr : Nat → Option Int) (d : Nat → Nat) : Prop where
  nd : ws.Nodup
  lt : ∀ p ∈ ws, p < D.length
  h0 : ws[0]? = some r
  d0 : d r = 0
  root : nr r = some (-1)
  dom : ∀ p, nr p ≠ none ↔ p ∈ ws
  up : ∀ p e, p ≠ r → nr p = some e → 0 ≤ e ∧ e ∈ D.getD p [] ∧ seat D (mt e) ∈ ws ∧ d p = d (seat D (mt e)) + 1
  mono : ∀ (a b x y : Nat), a ≤ b → ws[a]? = some x → ws[b]? = some y → d x ≤ d y
  top : ∀ x ∈ ws, ∀ y, ws[i]? = some y → d x ≤ d y + 1
  le : ∀ (a x : Nat), ws[a]? = some x → d x ≤ a
  cl : ∀ (a x : Nat), a < i → ws[a]? = some x → ∀ e ∈ D.getD x [], seat D (mt e) ∈ ws ∧ d (seat D (mt e)) ≤ d x + 1
  part : ∀ x, ws[i]? = some x → ∀ e ∈ (D.getD x []).take t, seat D (mt e) ∈ ws ∧ d (seat D (mt e)) ≤ d x + 1
def updN {α : Type} (f : Nat → α) (q : Nat) (v : α) : Nat → α := fun p => if p = q then v else f p
theorem updN_same {α : Type} {f : Nat → α} {q : Nat} {v : α} : updN f q v q = v := if_pos rfl
theorem updN_ne {α : Type} {f : Nat → α} {q p : Nat} {v : α} (h : p ≠ q) : updN f q v p = f p := if_neg h
theorem bf_start {D : Dr} {r : Nat} (hr : r < D.length) : Bf D r 0 0 [r] (updN (fun _ => none) r (some (-1))) (fun _ => 0) where
  nd := by simp
  lt := fun p hp => by rw [List.mem_singleton.mp hp]; exact hr
  h0 := rfl
  d0 := rfl
  root := updN_same
  dom := fun p => by
    unfold updN
    by_cases h : p = r
    · rw [if_pos h, h]; simp
    · rw [if_neg h]; simp [h]
  up := fun p e hp h => by rw [updN_ne hp] at h; cases h
  mono := fun _ _ _ _ _ _ _ => Nat.le_refl 0
  top := fun _ _ _ _ => Nat.zero_le _
  le := fun _ _ _ => Nat.zero_le _
  cl := fun a x h => absurd h (Nat.not_lt_zero _)
  part := fun x _ e he => by rw [List.take_zero] at he; cases he
theorem bf_old {D : Dr} {r i t x : Nat} {ws : List Nat} {nr : Nat → Option Int} {d : Nat → Nat} {e : Int} (b : Bf D r i t ws nr d) (hx : ws[i]? = some x) (he : (D.getD x [])[t]? = some e) (hq : seat D (mt e) ∈ ws) : Bf D r i (t + 1) ws nr d :=
  { b with
    part := fun y hy f hf => by
      rw [hx] at hy
      cases hy
      rw [List.take_add_one, he] at hf
      rcases List.mem_append.mp hf with hf | hf
      · exact b.part x hx f hf
      · have := List.mem_singleton.mp hf
        subst this
        exact ⟨hq, b.top _ hq x hx⟩ }
theorem bf_new {D : Dr} {m r i t x : Nat} {ws : List Nat} {nr : Nat → Option Int} {d : Nat → Nat} {e : Int} (v : Valid D m) (b : Bf D r i t ws nr d) (hx : ws[i]? = some x) (he : (D.getD x [])[t]? = some e) (hq : seat D (mt e) ∉ ws) :
    Bf D r i (t + 1) (ws ++ [seat D (mt e)]) (updN nr (seat D (mt e)) (some (mt e))) (updN d (seat D (mt e)) (d x + 1)) := by
  have hem : e ∈ D.getD x [] := List.mem_of_getElem? he
  have hef := flat_of_getD hem
  have hmf := v.mt hef
  have hxw : x ∈ ws := List.mem_of_getElem? hx
  have ne : ∀ y ∈ ws, y ≠ seat D (mt e) := fun y hy h => hq (h ▸ hy)
  have hse : seat D e = x := seat_of' v.nd hem
  have hrw : r ∈ ws := List.mem_of_getElem? b.h0
  have hi : i < ws.length := (List.getElem?_eq_some_iff.mp hx).1
  have dne : ∀ y ∈ ws, updN d (seat D (mt e)) (d x + 1) y = d y := fun y hy => updN_ne (ne y hy)
  have old : ∀ {a y : Nat}, a < ws.length → (ws ++ [seat D (mt e)])[a]? = some y → ws[a]? = some y := fun {a y} ha h => by rw [List.getElem?_append_left ha] at h; exact h
  refine ⟨?_, ?_, ?_, ?_, ?_, ?_, ?_, ?_, ?_, ?_, ?_, ?_⟩
  · refine List.nodup_append.mpr ⟨b.nd, by simp, fun a ha c hc => ?_⟩
    rw [List.mem_singleton.mp hc]
    exact ne a ha
  · intro p hp
    rcases List.mem_append.mp hp with hp | hp
    · exact b.lt p hp
    · rw [List.mem_singleton.mp hp]; exact seat_lt hmf
  · rw [List.getElem?_append_left (by omega)]; exact b.h0
  · rw [dne r hrw]; exact b.d0
  · rw [updN_ne (ne r hrw)]; exact b.root
  · intro p
    unfold updN
    by_cases h : p = seat D (mt e)
    · rw [if_pos h, h]; simp
    · rw [if_neg h, b.dom p]; simp [h]
  · intro p f hp hf
    by_cases h : p = seat D (mt e)
    · rw [h, updN_same] at hf
      cases hf
      refine ⟨(v.rg _ hmf).1, by rw [h]; exact mem_seat hmf, by rw [mt_mt, hse]; exact List.mem_append_left _ hxw, ?_⟩
      rw [h, updN_same, mt_mt, hse, dne x hxw]
    · rw [updN_ne h] at hf
      obtain ⟨u0, u1, u2, u3⟩ := b.up p f hp hf
      exact ⟨u0, u1, List.mem_append_left _ u2, by rw [updN_ne h, dne _ u2]; exact u3⟩
  · intro a c y z hac hy hz
    have hc := (List.getElem?_eq_some_iff.mp hz).1
    rw [List.length_append, List.length_singleton] at hc
    by_cases hcl : c < ws.length
    · have hy' := old (by omega) hy
      have hz' := old hcl hz
      rw [dne y (List.mem_of_getElem? hy'), dne z (List.mem_of_getElem? hz')]
      exact b.mono a c y z hac hy' hz'
    · have hz' : seat D (mt e) = z := by
        rw [List.getElem?_append_right (by omega), show c - ws.length = 0 by omega] at hz
        exact Option.some.inj hz
      rw [← hz', updN_same]
      by_cases hal : a < ws.length
      · have hy' := old hal hy
        rw [dne y (List.mem_of_getElem? hy')]
        exact b.top y (List.mem_of_getElem? hy') x hx
      · have ha := (List.getElem?_eq_some_iff.mp hy).1
        rw [List.length_append, List.length_singleton] at ha
        have hy' : seat D (mt e) = y := by
          rw [List.getElem?_append_right (by omega), show a - ws.length = 0 by omega] at hy
          exact Option.some.inj hy
        rw [← hy', updN_same]; exact Nat.le_refl _
  · intro y hy z hz
    have hz' := old hi hz
    rw [hx] at hz'
    cases hz'
    rw [dne x hxw]
    rcases List.mem_append.mp hy with hy | hy
    · rw [dne y hy]; exact b.top y hy x hx
    · rw [List.mem_singleton.mp hy, updN_same]; exact Nat.le_refl _
  · intro a y hy
    have ha := (List.getElem?_eq_some_iff.mp hy).1
    rw [List.length_append, List.length_singleton] at ha
    by_cases hal : a < ws.length
    · have hy' := old hal hy
      rw [dne y (List.mem_of_getElem? hy')]
      exact b.le a y hy'
    · have hy' : seat D (mt e) = y := by
        rw [List.getElem?_append_right (by omega), show a - ws.length = 0 by omega] at hy
        exact Option.some.inj hy
      rw [← hy', updN_same]
      have := b.le i x hx
      omega
  · intro a y ha hy f hf
    have hy' := old (by omega) hy
    obtain ⟨c1, c2⟩ := b.cl a y ha hy' f hf
    exact ⟨List.mem_append_left _ c1, by rw [dne _ c1, dne y (List.mem_of_getElem? hy')]; exact c2⟩
  · intro y hy f hf
    have hy' := old hi hy
    rw [hx] at hy'
    cases hy'
    rw [List.take_add_one, he] at hf
    rw [dne x hxw]
    rcases List.mem_append.mp hf with hf | hf
    · obtain ⟨c1, c2⟩ := b.part x hx f hf
      exact ⟨List.mem_append_left _ c1, by rw [dne _ c1]; exact c2⟩
    · have := List.mem_singleton.mp hf
      subst this
      exact ⟨List.mem_append_right _ (List.mem_singleton.mpr rfl), by rw [updN_same]; exact Nat.le_refl _⟩
theorem bf_next {D : Dr} {r i t x : Nat} {ws : List Nat} {nr : Nat → Option Int} {d : Nat → Nat} (b : Bf D r i t ws nr d) (hx : ws[i]? = some x) (ht : (D.getD x []).length ≤ t) : Bf D r (i + 1) 0 ws nr d :=
  { b with
    top := fun y hy z hz => Nat.le_trans (b.top y hy x hx) (Nat.succ_le_succ (b.mono i (i + 1) x z (Nat.le_succ i) hx hz))
    cl := fun a y ha hy e he => by
      by_cases h : a < i
      · exact b.cl a y h hy e he
      · have : a = i := by omega
        subst this
        rw [hx] at hy
        cases hy
        exact b.part x hx e (by rw [List.take_of_length_le ht]; exact he)
    part := fun y _ e he => by rw [List.take_zero] at he; cases he }
theorem bf_len {D : Dr} {r i t : Nat} {ws : List Nat} {nr : Nat → Option Int} {d : Nat → Nat} (b : Bf D r i t ws nr d) : ws.length ≤ D.length := by
  have := nodup_len (m := List.range D.length) b.nd fun p hp => List.mem_range.mpr (b.lt p hp)
  rw [List.length_range] at this
  exact this
theorem bf_done {D : Dr} {r i t : Nat} {ws : List Nat} {nr : Nat → Option Int} {d : Nat → Nat} (b : Bf D r i t ws nr d) (hi : ws.length ≤ i) : Tree D r nr d where
  root := b.root
  d0 := b.d0
  up := fun p e hp h => by
    obtain ⟨u0, u1, u2, u3⟩ := b.up p e hp h
    exact ⟨u0, u1, (b.dom _).mpr u2, u3⟩
  cl := fun p hp e he => by
    have hm := (b.dom p).mp hp
    obtain ⟨a, ha⟩ := List.mem_iff_getElem?.mp hm
    obtain ⟨c1, c2⟩ := b.cl a p (Nat.lt_of_lt_of_le (List.getElem?_eq_some_iff.mp ha).1 hi) ha e he
    exact ⟨(b.dom _).mpr c1, c2⟩
  bd := fun p hp => by
    obtain ⟨a, ha⟩ := List.mem_iff_getElem?.mp ((b.dom p).mp hp)
    have h1 := b.le a p ha
    have h2 := (List.getElem?_eq_some_iff.mp ha).1
    have h3 := bf_len b
    omega
/-- each way from the root's other places to the root is no shorter -/
theorem tree_far {D : Dr} {m r : Nat} {nr : Nat → Option Int} {d : Nat → Nat} (v : Valid D m) (t : Tree D r nr d) : ∀ {w : List Int} {p : Nat}, Path D p w r → nr p ≠ none ∧ d p ≤ w.length
  | [], p, h => by
    have h : p = r := h
    subst h
    exact ⟨by rw [t.root]; simp, by rw [t.d0]; exact Nat.zero_le _⟩
  | e :: w, p, h => by
    obtain ⟨i1, i2⟩ := tree_far v t h.2
    have hf := flat_of_getD h.1
    have hmf := v.mt hf
    obtain ⟨c1, c2⟩ := t.cl _ i1 (mt e) (mem_seat hmf)
    rw [mt_mt, seat_of' v.nd h.1] at c1 c2
    exact ⟨c1, by rw [List.length_cons]; omega⟩
end RF

/-! Mathematics: a drawing is cut along a round. -/
namespace RF
theorem prv_ix {T : List Int} {i : Nat} (h : i < T.length) : (if i = 0 then T.length - 1 else i - 1) < T.length := by split <;> omega
theorem prv_get {T : List Int} {i : Nat} (h : i < T.length) : T[if i = 0 then T.length - 1 else i - 1]? = some (prv T i) := by
  unfold prv
  rw [List.getD_eq_getElem?_getD, List.getElem?_eq_getElem (prv_ix h)]; rfl
theorem get_some {T : List Int} {i : Nat} (h : i < T.length) : T[i]? = some (T.getD i 0) := by
  rw [List.getD_eq_getElem?_getD, List.getElem?_eq_getElem h]; rfl
theorem prv_in {T : List Int} {i : Nat} (h : i < T.length) : prv T i ∈ T := List.mem_of_getElem? (prv_get h)
theorem get_in {T : List Int} {i : Nat} (h : i < T.length) : T.getD i 0 ∈ T := List.mem_of_getElem? (get_some h)
/-- ends of one tie in a round are the same -/
theorem turn_tie {D : Dr} {m : Nat} {T : List Int} (h : IsTurn D m T) {i j : Nat} {e f : Int} (hi : T[i]? = some e) (hj : T[j]? = some f) (ht : e / 2 = f / 2) : i = j := by
  have a : (T.map (· / 2))[i]? = some (e / 2) := by rw [List.getElem?_map, hi]; rfl
  have b : (T.map (· / 2))[j]? = some (e / 2) := by rw [List.getElem?_map, hj, ht]; rfl
  exact nodup_ix h.ts a b
theorem turn_seat {D : Dr} {m : Nat} {T : List Int} (h : IsTurn D m T) {i j : Nat} {e f : Int} (hi : T[i]? = some e) (hj : T[j]? = some f) (ht : seat D e = seat D f) : i = j := by
  have a : (T.map (seat D))[i]? = some (seat D e) := by rw [List.getElem?_map, hi]; rfl
  have b : (T.map (seat D))[j]? = some (seat D e) := by rw [List.getElem?_map, hj, ht]; rfl
  exact nodup_ix h.ps a b
/-- a round does not turn back -/
theorem turn_ne {D : Dr} {m : Nat} {T : List Int} (h : IsTurn D m T) {i : Nat} (hi : i < T.length) : mt (prv T i) ≠ T.getD i 0 := by
  intro e
  have q : prv T i / 2 = T.getD i 0 / 2 := by rw [← e, mt_div]
  have := turn_tie h (prv_get hi) (get_some hi) q
  have e2 : prv T i = T.getD i 0 := by
    have a := prv_get hi
    rw [this, get_some hi] at a
    exact (Option.some.inj a).symm
  rw [← e2] at e
  exact mt_ne _ e
theorem IsTurn.inD {D : Dr} {m : Nat} {T : List Int} (v : Valid D m) (h : IsTurn D m T) {e : Int} (he : e ∈ T) : e ∈ D.flatten := v.mem (h.wk.rg e he).1 (h.wk.rg e he).2
theorem turn_come {D : Dr} {m : Nat} {T : List Int} (v : Valid D m) (h : IsTurn D m T) {i : Nat} (hi : i < T.length) : mt (prv T i) ∈ D.getD (seat D (T.getD i 0)) [] := by
  rw [← h.wk.st i hi]
  exact mem_seat (v.mt (h.inD v (prv_in hi)))
/-- a ring split at an end of it -/
theorem ring_split {a e : Int} {r : List Int} {j : Nat} (hj : (a :: r)[j]? = some e) (hne : a ≠ e) :
    ∃ L R, a :: r = a :: (L ++ e :: R) ∧ (a :: r).take (j + 1) = a :: (L ++ [e]) ∧ (a :: r).drop (j + 1) = R := by
  cases j with
  | zero => exact absurd (Option.some.inj hj) hne
  | succ j =>
    have hj : r[j]? = some e := hj
    obtain ⟨h1, h2⟩ := List.getElem?_eq_some_iff.mp hj
    refine ⟨r.take j, r.drop (j + 1), ?_, ?_, rfl⟩
    · congr 1
      have := List.drop_eq_getElem_cons h1
      rw [h2] at this
      rw [← this, List.take_append_drop]
    · show a :: r.take (j + 1) = _
      rw [List.take_add_one, hj]; rfl
structure CutTo (D : Dr) (T : List Int) (m i : Nat) (C : Dr) : Prop where
  len : C.length = D.length + i
  off : ∀ p, p < D.length → p ∉ (T.take i).map (seat D) → C[p]? = D[p]?
  on : ∀ j, j < i → ∃ L R, Ring D T j L R ∧ (C.getD (seat D (T.getD j 0)) []).Perm (mt (prv T j) :: (L ++ [T.getD j 0])) ∧
    (C.getD (D.length + j) []).Perm ((2 * m + 2 * j : Int) :: (R ++ [(2 * m + 2 * (if j = 0 then T.length - 1 else j - 1 : Nat) + 1 : Int)]))
theorem cut_start {D : Dr} {T : List Int} {m : Nat} : CutTo D T m 0 D := ⟨rfl, fun _ _ _ => rfl, fun j h => absurd h (Nat.not_lt_zero j)⟩
theorem cut_step {D : Dr} {T : List Int} {m i : Nat} {C : Dr} {L R r1 r2 : List Int} (v : Valid D m) (h : IsTurn D m T) (c : CutTo D T m i C) (ri : Ring D T i L R)
    (h1 : r1.Perm (mt (prv T i) :: (L ++ [T.getD i 0]))) (h2 : r2.Perm ((2 * m + 2 * i : Int) :: (R ++ [(2 * m + 2 * (if i = 0 then T.length - 1 else i - 1 : Nat) + 1 : Int)]))) :
    CutTo D T m (i + 1) (C.set (seat D (T.getD i 0)) r1 ++ [r2]) := by
  have hi := ri.lt
  have hs : seat D (T.getD i 0) < D.length := seat_lt (h.inD v (get_in hi))
  have hl : (C.set (seat D (T.getD i 0)) r1).length = D.length + i := by rw [List.length_set, c.len]
  refine ⟨by rw [List.length_append, hl]; rfl, fun p hp hn => ?_, fun j hj => ?_⟩
  · rw [List.take_add_one, get_some hi, List.map_append] at hn
    rw [List.getElem?_append_left (by omega)]
    have hne : p ≠ seat D (T.getD i 0) := fun e => hn (List.mem_append_right _ (by rw [e]; exact List.mem_singleton.mpr rfl))
    rw [List.getElem?_set_ne hne.symm]
    exact c.off p hp fun q => hn (List.mem_append_left _ q)
  · by_cases hji : j = i
    · subst hji
      refine ⟨L, R, ri, ?_, ?_⟩
      · rw [List.getD_eq_getElem?_getD, List.getElem?_append_left (by omega), List.getElem?_set_self (by rw [c.len]; omega)]
        exact h1
      · rw [List.getD_eq_getElem?_getD, List.getElem?_append_right (by omega), hl, Nat.sub_self]
        exact h2
    · have hj' : j < i := by omega
      obtain ⟨L', R', a, b, d⟩ := c.on j hj'
      refine ⟨L', R', a, ?_, ?_⟩
      · have hsj : seat D (T.getD j 0) < D.length := seat_lt (h.inD v (get_in a.lt))
        have hne : seat D (T.getD i 0) ≠ seat D (T.getD j 0) := fun e => hji (turn_seat h (get_some hi) (get_some a.lt) e).symm
        rw [List.getD_eq_getElem?_getD, List.getElem?_append_left (by omega), List.getElem?_set_ne hne, ← List.getD_eq_getElem?_getD]
        exact b
      · have hne : seat D (T.getD i 0) ≠ D.length + j := by omega
        rw [List.getD_eq_getElem?_getD, List.getElem?_append_left (by omega), List.getElem?_set_ne hne, ← List.getD_eq_getElem?_getD]
        exact d
theorem cut_done {D : Dr} {T : List Int} {m : Nat} {C : Dr} (c : CutTo D T m T.length C) : IsCut D T m C := ⟨c.len, fun p hp hn => c.off p hp (by rw [List.take_length]; exact hn), c.on⟩
end RF

/-! Mathematics: what is behind along a row; the cut drawing's places. -/
namespace RF
/-! ### consecutive ends -/
def Con (nx : Int → Int) (l : List Int) : Prop := ∀ (j : Nat) (x y : Int), l[j]? = some x → l[j + 1]? = some y → nx x = y
theorem Con.mid {nx : Int → Int} {p l s : List Int} (h : Con nx (p ++ (l ++ s))) : Con nx l := fun j x y hx hy => by
  have hj := (List.getElem?_eq_some_iff.mp hy).1
  refine h (p.length + j) x y ?_ ?_
  · rw [List.getElem?_append_right (by omega), show p.length + j - p.length = j by omega, List.getElem?_append_left (by omega)]; exact hx
  · rw [List.getElem?_append_right (by omega), show p.length + j + 1 - p.length = j + 1 by omega, List.getElem?_append_left (by omega)]; exact hy
theorem Con.tail {nx : Int → Int} {a : Int} {l : List Int} (h : Con nx (a :: l)) : Con nx l := fun j x y hx hy => h (j + 1) x y hx hy
theorem Con.head {nx : Int → Int} {a b : Int} {l : List Int} (h : Con nx (a :: b :: l)) : nx a = b := h 0 a b rfl rfl
/-- what is handed on along a chain -/
theorem chain {S : Int → Prop} {nx : Int → Int} : ∀ {a : Int} {L : List Int} {b : Int}, Con nx (a :: (L ++ [b])) → S (nx a) → (∀ x ∈ L, S x → S (nx x)) → ∀ x ∈ L ++ [b], S x
  | a, [], b, h, h0, _, x, hx => by
    have : nx a = b := h.head
    rw [List.mem_singleton.mp hx, ← this]; exact h0
  | a, y :: L, b, h, h0, hs, x, hx => by
    have e : nx a = y := h.head
    rcases List.mem_cons.mp hx with rfl | hx
    · rw [← e]; exact h0
    · refine chain (a := y) (L := L) (b := b) h.tail (hs y List.mem_cons_self (e ▸ h0)) (fun z hz => hs z (List.mem_cons_of_mem _ hz)) x hx
theorem chain_all {S : Int → Prop} {nx : Int → Int} : ∀ {a : Int} {l : List Int}, Con nx (a :: l) → S a → (∀ x ∈ a :: l, S x → S (nx x)) → ∀ x ∈ l, S x
  | _, [], _, _, _, _, hx => by cases hx
  | a, y :: l, h, h0, hs, x, hx => by
    have e : nx a = y := h.head
    have hy : S y := e ▸ hs a List.mem_cons_self h0
    rcases List.mem_cons.mp hx with rfl | hx
    · exact hy
    · exact chain_all h.tail hy (fun z hz => hs z (List.mem_cons_of_mem _ hz)) x hx
/-- sig goes along a row, and round it -/
theorem sig_row {D : Dr} (h : D.flatten.Nodup) {p j : Nat} {r : List Int} {e : Int} (hr : D[p]? = some r) (hj : r[j]? = some e) : r[(j + 1) % r.length]? = some (sig D e) := by
  have he : e ∈ r := List.mem_of_getElem? hj
  have hjl := (List.getElem?_eq_some_iff.mp hj).1
  have hs := seat_of h hr he
  have hg : D.getD (seat D e) [] = r := by rw [hs]; exact getD_of hr
  have hi : r.idxOf e = j := by
    have h1 : r.idxOf e < r.length := List.idxOf_lt_length_of_mem he
    have h2 : r[r.idxOf e]? = some e := by rw [List.getElem?_eq_getElem h1, List.getElem_idxOf h1]
    exact nodup_ix (nodup_row h hr) h2 hj
  have hm : (j + 1) % r.length < r.length := Nat.mod_lt _ (by omega)
  unfold sig
  rw [hg, hi, List.getD_eq_getElem?_getD, List.getElem?_eq_getElem hm]; rfl
theorem con_twice {D : Dr} (h : D.flatten.Nodup) {p : Nat} {r : List Int} (hr : D[p]? = some r) : Con (sig D) (r ++ r) := fun j x y hx hy => by
  have hl := (List.getElem?_eq_some_iff.mp hy).1
  rw [List.length_append] at hl
  have key : ∀ {i : Nat}, r[i]? = some x → r[(i + 1) % r.length]? = some y → sig D x = y := fun {i} a b => by
    have := sig_row h hr a
    rw [b] at this
    exact (Option.some.inj this).symm
  by_cases h1 : j + 1 < r.length
  · rw [List.getElem?_append_left (by omega)] at hx
    rw [List.getElem?_append_left h1] at hy
    exact key hx (by rw [Nat.mod_eq_of_lt h1]; exact hy)
  · rw [List.getElem?_append_right (by omega)] at hy
    by_cases h2 : j < r.length
    · rw [List.getElem?_append_left h2] at hx
      have e1 : j + 1 = r.length := by omega
      refine key hx ?_
      rw [e1, Nat.mod_self]
      rw [show j + 1 - r.length = 0 by omega] at hy
      exact hy
    · rw [List.getElem?_append_right (by omega)] at hx
      refine key hx ?_
      rw [show j - r.length + 1 = j + 1 - r.length by omega, Nat.mod_eq_of_lt (by omega)]
      exact hy
theorem rot_form {r x : List Int} {a : Int} (h : Rot r (a :: x)) : ∃ u w, r = u ++ a :: w ∧ x = w ++ u := by
  obtain ⟨u, v, h1, h2⟩ := h
  cases v with
  | nil =>
    refine ⟨[], x, ?_, by rw [List.append_nil]⟩
    rw [List.append_nil] at h1
    rw [List.nil_append] at h2
    rw [h1, ← h2]; rfl
  | cons b v =>
    rw [List.cons_append] at h2
    injection h2 with e1 e2
    exact ⟨u, v, by rw [h1, e1], e2⟩
theorem app_inj {a : Int} : ∀ {u w u' w' : List Int}, u ++ a :: w = u' ++ a :: w' → a ∉ u → a ∉ u' → u = u' ∧ w = w'
  | [], w, [], w', h, _, _ => by injection h with _ h; exact ⟨rfl, h⟩
  | [], w, b :: u', w', h, _, n => by
    injection h with h _
    exact absurd (h ▸ List.mem_cons_self) n
  | b :: u, w, [], w', h, n, _ => by
    injection h with h _
    exact absurd (h ▸ List.mem_cons_self) n
  | b :: u, w, c :: u', w', h, n, n' => by
    injection h with h1 h2
    obtain ⟨e1, e2⟩ := app_inj h2 (fun q => n (List.mem_cons_of_mem _ q)) (fun q => n' (List.mem_cons_of_mem _ q))
    exact ⟨by rw [h1, e1], e2⟩
theorem notin_app {a : Int} {u w : List Int} (h : (u ++ a :: w).Nodup) : a ∉ u ∧ a ∉ w := by
  obtain ⟨h1, h2, h3⟩ := List.nodup_append.mp h
  exact ⟨fun q => h3 a q a List.mem_cons_self rfl, (List.nodup_cons.mp h2).1⟩
theorem rot_uniq {r x y : List Int} {a : Int} (hn : r.Nodup) (h : Rot r (a :: x)) (h' : Rot r (a :: y)) : x = y := by
  obtain ⟨u, w, h1, h2⟩ := rot_form h
  obtain ⟨u', w', h3, h4⟩ := rot_form h'
  have e1 : (u ++ a :: w).Nodup := h1 ▸ hn
  have e2 : (u' ++ a :: w').Nodup := h3 ▸ hn
  obtain ⟨q1, q2⟩ := app_inj (h1.symm.trans h3) (notin_app e1).1 (notin_app e2).1
  rw [h2, h4, q1, q2]
theorem rot_perm {r x : List Int} (h : Rot r x) : x.Perm r := by
  obtain ⟨u, v, h1, h2⟩ := h
  rw [h1, h2]
  exact List.perm_append_comm
/-- along a ring begun anywhere, and home -/
theorem con_rot {D : Dr} (h : D.flatten.Nodup) {p : Nat} {r x : List Int} {a : Int} (hr : D[p]? = some r) (hx : Rot r (a :: x)) : Con (sig D) (a :: (x ++ [a])) := by
  obtain ⟨u, w, h1, h2⟩ := rot_form hx
  have c := con_twice h hr
  have e : r ++ r = u ++ ((a :: (x ++ [a])) ++ w) := by
    rw [h2, h1]
    simp only [List.append_assoc, List.cons_append, List.nil_append]
  rw [e] at c
  exact c.mid
/-! ### the numbers of a round's ends, counted round -/
def pr (k i : Nat) : Nat := if i = 0 then k - 1 else i - 1
def su (k i : Nat) : Nat := if i + 1 = k then 0 else i + 1
theorem pr_lt {k i : Nat} (h : i < k) : pr k i < k := by unfold pr; split <;> omega
theorem su_lt {k i : Nat} (h : i < k) : su k i < k := by unfold su; split <;> omega
theorem su_pr {k i : Nat} (h : i < k) : su k (pr k i) = i := by unfold su pr; split <;> split <;> omega
theorem pr_su {k i : Nat} (h : i < k) : pr k (su k i) = i := by unfold su pr; split <;> split <;> omega
theorem prv_pr (T : List Int) (i : Nat) : prv T i = T.getD (pr T.length i) 0 := rfl
section
variable {D C : Dr} {m : Nat} {T : List Int}
/-- the mate of an end of a round stands at the next place -/
theorem turn_next (h : IsTurn D m T) {i : Nat} (hi : i < T.length) : seat D (mt (T.getD i 0)) = seat D (T.getD (su T.length i) 0) := by
  have := h.wk.st (su T.length i) (su_lt hi)
  rw [prv_pr, pr_su hi] at this
  exact this
/-- the rings of a round, chosen -/
structure Cut (D C : Dr) (T : List Int) (m : Nat) (L R : Nat → List Int) : Prop where
  v : Valid D m
  t : IsTurn D m T
  len : C.length = D.length + T.length
  off : ∀ p, p < D.length → p ∉ T.map (seat D) → C[p]? = D[p]?
  ring : ∀ i, i < T.length → Ring D T i (L i) (R i)
  old : ∀ i, i < T.length → (C.getD (seat D (T.getD i 0)) []).Perm (mt (prv T i) :: (L i ++ [T.getD i 0]))
  new : ∀ i, i < T.length → (C.getD (D.length + i) []).Perm ((2 * m + 2 * i : Int) :: (R i ++ [(2 * m + 2 * (pr T.length i : Nat) + 1 : Int)]))
theorem cut_mk (v : Valid D m) (t : IsTurn D m T) (c : IsCut D T m C) : ∃ L R, Cut D C T m L R := by
  have h : ∀ i, ∃ p : List Int × List Int, i < T.length → Ring D T i p.1 p.2 ∧ (C.getD (seat D (T.getD i 0)) []).Perm (mt (prv T i) :: (p.1 ++ [T.getD i 0])) ∧
      (C.getD (D.length + i) []).Perm ((2 * m + 2 * i : Int) :: (p.2 ++ [(2 * m + 2 * (pr T.length i : Nat) + 1 : Int)])) := fun i => by
    by_cases hi : i < T.length
    · obtain ⟨L, R, h1, h2, h3⟩ := c.on i hi
      exact ⟨(L, R), fun _ => ⟨h1, h2, h3⟩⟩
    · exact ⟨([], []), fun q => absurd q hi⟩
  obtain ⟨f, hf⟩ := Classical.axiomOfChoice h
  exact ⟨fun i => (f i).1, fun i => (f i).2, v, t, c.len, c.off, fun i hi => (hf i hi).1, fun i hi => (hf i hi).2.1, fun i hi => (hf i hi).2.2⟩
end
section
variable {D C : Dr} {m : Nat} {T : List Int} {L R : Nat → List Int}
theorem Cut.inD (c : Cut D C T m L R) {i : Nat} (hi : i < T.length) : T.getD i 0 ∈ D.flatten := c.t.inD c.v (get_in hi)
theorem Cut.plt (c : Cut D C T m L R) {i : Nat} (hi : i < T.length) : seat D (T.getD i 0) < D.length := seat_lt (c.inD hi)
theorem Cut.row (c : Cut D C T m L R) {i : Nat} (hi : i < T.length) : D[seat D (T.getD i 0)]? = some (D.getD (seat D (T.getD i 0)) []) := by
  obtain ⟨r, hr, _⟩ := seat_at (c.inD hi)
  rw [getD_of hr]; exact hr
theorem Cut.rowp (c : Cut D C T m L R) {i : Nat} (hi : i < T.length) : (mt (prv T i) :: (L i ++ T.getD i 0 :: R i)).Perm (D.getD (seat D (T.getD i 0)) []) := rot_perm (c.ring i hi).rot
theorem Cut.rown (c : Cut D C T m L R) {i : Nat} (hi : i < T.length) : (mt (prv T i) :: (L i ++ T.getD i 0 :: R i)).Nodup := (c.rowp hi).nodup_iff.mpr (nodup_row c.v.nd (c.row hi))
theorem Cut.sL (c : Cut D C T m L R) {i : Nat} (hi : i < T.length) {x : Int} (hx : x ∈ L i) : x ∈ D.getD (seat D (T.getD i 0)) [] := (c.rowp hi).mem_iff.mp (List.mem_cons_of_mem _ (List.mem_append_left _ hx))
theorem Cut.sR (c : Cut D C T m L R) {i : Nat} (hi : i < T.length) {x : Int} (hx : x ∈ R i) : x ∈ D.getD (seat D (T.getD i 0)) [] := (c.rowp hi).mem_iff.mp (List.mem_cons_of_mem _ (List.mem_append_right _ (List.mem_cons_of_mem _ hx)))
theorem Cut.cases (c : Cut D C T m L R) {i : Nat} (hi : i < T.length) {x : Int} (hx : x ∈ D.getD (seat D (T.getD i 0)) []) : x = mt (prv T i) ∨ x ∈ L i ∨ x = T.getD i 0 ∨ x ∈ R i := by
  rcases List.mem_cons.mp ((c.rowp hi).mem_iff.mpr hx) with h | h
  · exact .inl h
  · rcases List.mem_append.mp h with h | h
    · exact .inr (.inl h)
    · rcases List.mem_cons.mp h with h | h
      · exact .inr (.inr (.inl h))
      · exact .inr (.inr (.inr h))
/-- of unlike sorts -/
theorem Cut.apart (c : Cut D C T m L R) {i : Nat} (hi : i < T.length) : mt (prv T i) ∉ L i ∧ mt (prv T i) ∉ R i ∧ T.getD i 0 ∉ L i ∧ T.getD i 0 ∉ R i ∧ (∀ x ∈ L i, x ∉ R i) ∧ (L i).Nodup ∧ (R i).Nodup := by
  have h := List.nodup_cons.mp (c.rown hi)
  obtain ⟨h2, h3, h4⟩ := List.nodup_append.mp h.2
  have h5 := List.nodup_cons.mp h3
  exact ⟨fun q => h.1 (List.mem_append_left _ q), fun q => h.1 (List.mem_append_right _ (List.mem_cons_of_mem _ q)), fun q => h4 _ q _ List.mem_cons_self rfl, h5.1, fun x hx q => h4 x hx x (List.mem_cons_of_mem _ q) rfl, h2, h5.2⟩
/-- the other ends of the places are of ties off the round -/
theorem Cut.side (c : Cut D C T m L R) {i : Nat} (hi : i < T.length) {x : Int} (hx : x ∈ L i ∨ x ∈ R i) : x / 2 ∉ T.map (· / 2) := by
  intro q
  obtain ⟨t, ht, e⟩ := List.mem_map.mp q
  obtain ⟨j, hj⟩ := List.mem_iff_getElem?.mp ht
  have hjl := (List.getElem?_eq_some_iff.mp hj).1
  have hg : T.getD j 0 = t := getD_of hj
  have hs : seat D x = seat D (T.getD i 0) := seat_of' c.v.nd (hx.elim (c.sL hi) (c.sR hi))
  obtain ⟨a1, a2, a3, a4, _, _, _⟩ := c.apart hi
  by_cases he : x = t
  · subst he
    have := turn_seat c.t (get_some hi) hj hs.symm
    subst this
    rw [hg] at a3 a4
    exact hx.elim a3 a4
  · have hm : x = mt t := mt_of_div e (fun q => he q.symm)
    have h1 := turn_next c.t hjl
    rw [hg, ← hm, hs] at h1
    have := turn_seat c.t (get_some hi) (get_some (su_lt hjl)) h1
    have hp : prv T i = t := by rw [prv_pr, this, pr_su hjl, hg]
    rw [hp, ← hm] at a1 a2
    exact hx.elim a1 a2
theorem Cut.conL (c : Cut D C T m L R) {i : Nat} (hi : i < T.length) : Con (sig D) (mt (prv T i) :: (L i ++ [T.getD i 0])) := by
  have h := con_rot c.v.nd (c.row hi) (c.ring i hi).rot
  have e : mt (prv T i) :: ((L i ++ T.getD i 0 :: R i) ++ [mt (prv T i)]) = [] ++ ((mt (prv T i) :: (L i ++ [T.getD i 0])) ++ (R i ++ [mt (prv T i)])) := by simp
  rw [e] at h
  exact h.mid
theorem Cut.conR (c : Cut D C T m L R) {i : Nat} (hi : i < T.length) : Con (sig D) (T.getD i 0 :: (R i ++ [mt (prv T i)])) := by
  have h := con_rot c.v.nd (c.row hi) (c.ring i hi).rot
  have e : mt (prv T i) :: ((L i ++ T.getD i 0 :: R i) ++ [mt (prv T i)]) = (mt (prv T i) :: L i) ++ ((T.getD i 0 :: (R i ++ [mt (prv T i)])) ++ []) := by simp
  rw [e] at h
  exact h.mid
/-! ### what stands where in the cut drawing -/
inductive CAt (D : Dr) (T : List Int) (m : Nat) (L R : Nat → List Int) : Int → Nat → Prop
  | off {e : Int} : e ∈ D.flatten → seat D e ∉ T.map (seat D) → CAt D T m L R e (seat D e)
  | left {e : Int} {i : Nat} : i < T.length → (e = mt (prv T i) ∨ e ∈ L i ∨ e = T.getD i 0) → CAt D T m L R e (seat D (T.getD i 0))
  | right {e : Int} {i : Nat} : i < T.length → e ∈ R i → CAt D T m L R e (D.length + i)
  | even {i : Nat} : i < T.length → CAt D T m L R (2 * m + 2 * i) (D.length + i)
  | odd {i : Nat} : i < T.length → CAt D T m L R (2 * m + 2 * (pr T.length i : Nat) + 1) (D.length + i)
theorem Cut.at_of (c : Cut D C T m L R) {q : Nat} {e : Int} (h : e ∈ C.getD q []) : CAt D T m L R e q := by
  obtain ⟨r, hr, he⟩ := mem_of_getD h
  have hq : q < D.length + T.length := by rw [← c.len]; exact (List.getElem?_eq_some_iff.mp hr).1
  by_cases hqn : q < D.length
  · by_cases hp : q ∈ T.map (seat D)
    · obtain ⟨t, ht, rfl⟩ := List.mem_map.mp hp
      obtain ⟨i, hi⟩ := List.mem_iff_getElem?.mp ht
      have hil := (List.getElem?_eq_some_iff.mp hi).1
      have hg : T.getD i 0 = t := getD_of hi
      rw [← hg] at h ⊢
      refine .left hil ?_
      rcases List.mem_cons.mp ((c.old i hil).mem_iff.mp h) with h | h
      · exact .inl h
      · rcases List.mem_append.mp h with h | h
        · exact .inr (.inl h)
        · exact .inr (.inr (List.mem_singleton.mp h))
    · rw [c.off q hqn hp] at hr
      have hs := seat_of c.v.nd hr he
      rw [← hs] at hp ⊢
      exact .off (mem_flat.mpr ⟨q, r, hr, he⟩) hp
  · have e1 : q = D.length + (q - D.length) := by omega
    rw [e1] at h ⊢
    have hil : q - D.length < T.length := by omega
    rcases List.mem_cons.mp ((c.new _ hil).mem_iff.mp h) with h | h
    · rw [h]; exact .even hil
    · rcases List.mem_append.mp h with h | h
      · exact .right hil h
      · rw [List.mem_singleton.mp h]; exact .odd hil
theorem Cut.of_at (c : Cut D C T m L R) {q : Nat} {e : Int} (h : CAt D T m L R e q) : e ∈ C.getD q [] := by
  cases h with
  | off he hp =>
    rw [List.getD_eq_getElem?_getD, c.off _ (seat_lt he) hp, ← List.getD_eq_getElem?_getD]
    exact mem_seat he
  | left hi h =>
    refine (c.old _ hi).mem_iff.mpr ?_
    rcases h with h | h | h
    · rw [h]; exact List.mem_cons_self
    · exact List.mem_cons_of_mem _ (List.mem_append_left _ h)
    · rw [h]; exact List.mem_cons_of_mem _ (List.mem_append_right _ (List.mem_singleton.mpr rfl))
  | right hi h => exact (c.new _ hi).mem_iff.mpr (List.mem_cons_of_mem _ (List.mem_append_left _ h))
  | even hi => exact (c.new _ hi).mem_iff.mpr List.mem_cons_self
  | odd hi => exact (c.new _ hi).mem_iff.mpr (List.mem_cons_of_mem _ (List.mem_append_right _ (List.mem_singleton.mpr rfl)))
theorem Cut.hi (c : Cut D C T m L R) {i : Nat} (hi : i < T.length) {x : Int} (hx : x ∈ D.getD (seat D (T.getD i 0)) []) : 0 ≤ x ∧ x < 2 * m := c.v.rg x (flat_of_getD hx)
theorem Cut.come (c : Cut D C T m L R) {i : Nat} (hi : i < T.length) : mt (prv T i) ∈ D.getD (seat D (T.getD i 0)) [] := turn_come c.v c.t hi
/-- an end at an old place of the round -/
theorem Cut.lrow (c : Cut D C T m L R) {i : Nat} (hi : i < T.length) {e : Int} (h : e = mt (prv T i) ∨ e ∈ L i ∨ e = T.getD i 0) : e ∈ D.getD (seat D (T.getD i 0)) [] := by
  rcases h with h | h | h
  · rw [h]; exact c.come hi
  · exact c.sL hi h
  · rw [h]; exact mem_seat (c.inD hi)
theorem Cut.one (c : Cut D C T m L R) {e : Int} {q q' : Nat} (h : CAt D T m L R e q) (h' : CAt D T m L R e q') : q = q' := by
  have inP : ∀ {i : Nat}, i < T.length → seat D (T.getD i 0) ∈ T.map (seat D) := fun {i} hi => List.mem_map.mpr ⟨_, get_in hi, rfl⟩
  have lo : ∀ {i : Nat} {x : Int}, i < T.length → x ∈ D.getD (seat D (T.getD i 0)) [] → x < 2 * (m : Int) := fun {i x} hi hx => (c.hi hi hx).2
  have lr : ∀ {i j : Nat} {x : Int}, i < T.length → j < T.length → (x = mt (prv T i) ∨ x ∈ L i ∨ x = T.getD i 0) → x ∈ R j → False := fun {i j x} hi hj h1 h2 => by
    have s1 := seat_of' c.v.nd (c.lrow hi h1)
    have s2 := seat_of' c.v.nd (c.sR hj h2)
    have := turn_seat c.t (get_some hi) (get_some hj) (s1.symm.trans s2)
    subst this
    obtain ⟨a1, a2, a3, a4, a5, _, _⟩ := c.apart hi
    rcases h1 with h1 | h1 | h1
    · exact a2 (h1 ▸ h2)
    · exact a5 x h1 h2
    · exact a4 (h1 ▸ h2)
  cases h with
  | off he hp =>
    cases h' with
    | off _ _ => rfl
    | left hi h => exact (seat_of' c.v.nd (c.lrow hi h))
    | right hi h => exact absurd (seat_of' c.v.nd (c.sR hi h) ▸ inP hi) hp
    | even hi => have := c.v.rg _ he; omega
    | odd hi => have := c.v.rg _ he; omega
  | left hi h =>
    have hs := seat_of' c.v.nd (c.lrow hi h)
    have hl := lo hi (c.lrow hi h)
    cases h' with
    | off _ hp => exact hs.symm
    | left hj h2 => exact hs.symm.trans (seat_of' c.v.nd (c.lrow hj h2))
    | right hj h2 => exact (lr hi hj h h2).elim
    | even hj => omega
    | odd hj => omega
  | right hi h =>
    have hs := seat_of' c.v.nd (c.sR hi h)
    have hl := lo hi (c.sR hi h)
    cases h' with
    | off _ hp => exact absurd (hs ▸ inP hi) hp
    | left hj h2 => exact (lr hj hi h2 h).elim
    | right hj h2 =>
      have := turn_seat c.t (get_some hi) (get_some hj) (hs.symm.trans (seat_of' c.v.nd (c.sR hj h2)))
      rw [this]
    | even hj => omega
    | odd hj => omega
  | even hi =>
    generalize hx : (2 * (m : Int) + 2 * _) = x at h'
    cases h' with
    | off he hp => have := c.v.rg _ he; omega
    | left hj h2 => have := lo hj (c.lrow hj h2); omega
    | right hj h2 => have := lo hj (c.sR hj h2); omega
    | even hj => omega
    | odd hj => omega
  | odd hi =>
    rename_i i
    generalize hx : (2 * (m : Int) + 2 * _ + 1) = x at h'
    cases h' with
    | off he hp => have := c.v.rg _ he; omega
    | left hj h2 => have := lo hj (c.lrow hj h2); omega
    | right hj h2 => have := lo hj (c.sR hj h2); omega
    | even hj => omega
    | odd hj =>
      rename_i j
      have e : pr T.length i = pr T.length j := by omega
      have := congrArg (su T.length) e
      rw [su_pr hi, su_pr hj] at this
      rw [this]
theorem Cut.nd (c : Cut D C T m L R) : C.flatten.Nodup := by
  refine List.pairwise_flatten.mpr ⟨fun r hr => ?_, ?_⟩
  · obtain ⟨q, hq⟩ := List.mem_iff_getElem?.mp hr
    have hql : q < D.length + T.length := by rw [← c.len]; exact (List.getElem?_eq_some_iff.mp hq).1
    have hg : C.getD q [] = r := getD_of hq
    by_cases hqn : q < D.length
    · by_cases hp : q ∈ T.map (seat D)
      · obtain ⟨t, ht, rfl⟩ := List.mem_map.mp hp
        obtain ⟨i, hi⟩ := List.mem_iff_getElem?.mp ht
        have hil := (List.getElem?_eq_some_iff.mp hi).1
        have hgt : T.getD i 0 = t := getD_of hi
        rw [← hgt] at hg
        rw [← hg]
        refine (c.old i hil).nodup_iff.mpr ?_
        have h := c.rown hil
        have e : mt (prv T i) :: (L i ++ T.getD i 0 :: R i) = (mt (prv T i) :: (L i ++ [T.getD i 0])) ++ R i := by simp
        rw [e] at h
        exact (List.nodup_append.mp h).1
      · rw [c.off q hqn hp] at hq
        exact nodup_row c.v.nd hq
    · have e1 : q = D.length + (q - D.length) := by omega
      rw [e1] at hg
      have hil : q - D.length < T.length := by omega
      rw [← hg]
      refine (c.new _ hil).nodup_iff.mpr ?_
      have hlo : ∀ x ∈ R (q - D.length), x < 2 * (m : Int) := fun x hx => (c.hi hil (c.sR hil hx)).2
      refine List.nodup_cons.mpr ⟨fun h => ?_, List.nodup_append.mpr ⟨(c.apart hil).2.2.2.2.2.2, by simp, fun a ha b hb => ?_⟩⟩
      · rcases List.mem_append.mp h with h | h
        · have := hlo _ h; omega
        · have := List.mem_singleton.mp h; omega
      · have := hlo a ha
        have := List.mem_singleton.mp hb
        intro e
        omega
  · rw [List.pairwise_iff_getElem]
    intro i j hi hj hij x hx y hy e
    subst e
    have h1 : x ∈ C.getD i [] := by rw [List.getD_eq_getElem?_getD, List.getElem?_eq_getElem hi]; exact hx
    have h2 : x ∈ C.getD j [] := by rw [List.getD_eq_getElem?_getD, List.getElem?_eq_getElem hj]; exact hy
    have := c.one (c.at_of h1) (c.at_of h2)
    omega
theorem Cut.stC (c : Cut D C T m L R) {e : Int} {q : Nat} (h : CAt D T m L R e q) : RF.seat C e = q := seat_of' c.nd (c.of_at h)
theorem Cut.flat (c : Cut D C T m L R) {e : Int} {q : Nat} (h : CAt D T m L R e q) : e ∈ C.flatten := flat_of_getD (c.of_at h)
/-- each end of the drawing stands in the cut one -/
theorem Cut.ex (c : Cut D C T m L R) {e : Int} (he : e ∈ D.flatten) : ∃ q, CAt D T m L R e q := by
  by_cases hp : RF.seat D e ∈ T.map (RF.seat D)
  · obtain ⟨t, ht, hs⟩ := List.mem_map.mp hp
    obtain ⟨i, hi⟩ := List.mem_iff_getElem?.mp ht
    have hil := (List.getElem?_eq_some_iff.mp hi).1
    have hg : T.getD i 0 = t := getD_of hi
    have hm := mem_seat he
    rw [← hs, ← hg] at hm
    rcases c.cases hil hm with h | h | h | h
    · exact ⟨_, .left hil (.inl h)⟩
    · exact ⟨_, .left hil (.inr (.inl h))⟩
    · exact ⟨_, .left hil (.inr (.inr h))⟩
    · exact ⟨_, .right hil h⟩
  · exact ⟨_, .off he hp⟩
theorem Cut.valid (c : Cut D C T m L R) : Valid C (m + T.length) := by
  refine valid_of c.nd fun e => ⟨fun he => ?_, fun ⟨h0, h1⟩ => ?_⟩
  · have h := c.at_of (mem_seat he)
    generalize RF.seat C e = q at h
    cases h with
    | off he _ => have := c.v.rg _ he; omega
    | left hi h => have := c.hi hi (c.lrow hi h); omega
    | right hi h => have := c.hi hi (c.sR hi h); omega
    | even hi => omega
    | odd hi => have := pr_lt hi; omega
  · by_cases hm : e < 2 * (m : Int)
    · obtain ⟨q, hq⟩ := c.ex (c.v.mem h0 hm)
      exact c.flat hq
    · have hj : ((e - 2 * m) / 2).toNat < T.length := by omega
      by_cases h2 : e % 2 = 0
      · have e1 : e = 2 * (m : Int) + 2 * ((((e - 2 * m) / 2).toNat : Nat) : Int) := by omega
        rw [e1]
        exact c.flat (.even hj)
      · have e1 : e = 2 * (m : Int) + 2 * ((pr T.length (su T.length ((e - 2 * m) / 2).toNat) : Nat) : Int) + 1 := by rw [pr_su hj]; omega
        rw [e1]
        exact c.flat (.odd (su_lt hj))
end
end RF

/-! Mathematics: parted just where no way leads back; a shortest way back is a round that crosses once. -/
namespace RF
def Cn (C : Dr) (p q : Nat) : Prop := ∃ w, Path C p w q
theorem Cn.refl (C : Dr) (p : Nat) : Cn C p p := ⟨[], rfl⟩
theorem path_app {C : Dr} : ∀ {u v : List Int} {p q s : Nat}, Path C p u q → Path C q v s → Path C p (u ++ v) s
  | [], v, p, q, s, h, h' => by
    have h : p = q := h
    subst h; exact h'
  | e :: u, v, p, q, s, h, h' => ⟨h.1, path_app h.2 h'⟩
theorem path_split {C : Dr} : ∀ {u v : List Int} {p s : Nat}, Path C p (u ++ v) s → ∃ q, Path C p u q ∧ Path C q v s
  | [], v, p, s, h => ⟨p, rfl, h⟩
  | e :: u, v, p, s, h => by
    obtain ⟨q, h1, h2⟩ := path_split (u := u) h.2
    exact ⟨q, ⟨h.1, h1⟩, h2⟩
theorem path_fun {C : Dr} : ∀ {u : List Int} {p q s : Nat}, Path C p u q → Path C p u s → q = s
  | [], p, q, s, h, h' => (show p = q from h).symm.trans h'
  | e :: u, p, q, s, h, h' => path_fun h.2 h'.2
theorem Cn.trans {C : Dr} {p q s : Nat} (a : Cn C p q) (b : Cn C q s) : Cn C p s := by
  obtain ⟨u, hu⟩ := a
  obtain ⟨v, hv⟩ := b
  exact ⟨_, path_app hu hv⟩
theorem path_snoc' {C : Dr} {w : List Int} {p q : Nat} {e : Int} (h : Path C p w q) (he : e ∈ C.getD q []) : Path C p (w ++ [e]) (seat C (mt e)) := path_app h ⟨he, rfl⟩
/-- a way walked the other way -/
theorem path_back {C : Dr} {m : Nat} (v : Valid C m) : ∀ {w : List Int} {p q : Nat}, Path C p w q → ∃ u, Path C q u p ∧ u.length = w.length
  | [], p, q, h => ⟨[], (show p = q from h).symm, rfl⟩
  | e :: w, p, q, h => by
    obtain ⟨u, h1, h2⟩ := path_back v h.2
    have hm := v.mt (flat_of_getD h.1)
    have := path_snoc' h1 (mem_seat hm)
    rw [mt_mt, seat_of' v.nd h.1] at this
    exact ⟨_, this, by rw [List.length_append, List.length_singleton, List.length_cons, h2]⟩
theorem Cn.symm {C : Dr} {m : Nat} (v : Valid C m) {p q : Nat} (a : Cn C p q) : Cn C q p := by
  obtain ⟨w, h⟩ := a
  obtain ⟨u, h, _⟩ := path_back v h
  exact ⟨u, h⟩
theorem Cn.edge {C : Dr} {p : Nat} {e : Int} (h : e ∈ C.getD p []) : Cn C p (seat C (mt e)) := ⟨[e], h, rfl⟩
section
variable {D C : Dr} {m : Nat} {T : List Int} {L R : Nat → List Int}
/-! ### copies and mates -/
theorem mt_even (m i : Nat) : mt (2 * (m : Int) + 2 * (i : Int)) = 2 * (m : Int) + 2 * (i : Int) + 1 := by unfold mt; omega
theorem mt_odd (m i : Nat) : mt (2 * (m : Int) + 2 * (i : Int) + 1) = 2 * (m : Int) + 2 * (i : Int) := by unfold mt; omega
theorem Cut.bAt (c : Cut D C T m L R) {i : Nat} (hi : i < T.length) : CAt D T m L R (T.getD i 0) (seat D (T.getD i 0)) := .left hi (.inr (.inr rfl))
/-- the mate of an end of the round: it comes to the next place -/
theorem Cut.aAt (c : Cut D C T m L R) {i : Nat} (hi : i < T.length) : CAt D T m L R (mt (T.getD i 0)) (seat D (T.getD (su T.length i) 0)) := by
  refine .left (su_lt hi) (.inl ?_)
  rw [prv_pr, pr_su hi]
theorem Cut.oddAt (c : Cut D C T m L R) {i : Nat} (hi : i < T.length) : CAt D T m L R (2 * m + 2 * i + 1) (D.length + su T.length i) := by
  have := CAt.odd (D := D) (T := T) (m := m) (L := L) (R := R) (su_lt hi)
  rw [pr_su hi] at this
  exact this
/-- of a tie of the round, or off it -/
theorem Cut.onoff (c : Cut D C T m L R) {e : Int} (h : e / 2 ∈ T.map (· / 2)) : ∃ i, i < T.length ∧ (e = T.getD i 0 ∨ e = mt (T.getD i 0)) := by
  obtain ⟨t, ht, he⟩ := List.mem_map.mp h
  obtain ⟨i, hi⟩ := List.mem_iff_getElem?.mp ht
  have hil := (List.getElem?_eq_some_iff.mp hi).1
  have hg : T.getD i 0 = t := getD_of hi
  refine ⟨i, hil, ?_⟩
  rw [hg]
  by_cases q : e = t
  · exact .inl q
  · exact .inr (mt_of_div he fun z => q z.symm)
theorem on_tie {T : List Int} {i : Nat} (hi : i < T.length) : T.getD i 0 / 2 ∈ T.map (· / 2) := List.mem_map.mpr ⟨_, get_in hi, rfl⟩
theorem on_mt {T : List Int} {i : Nat} (hi : i < T.length) : mt (T.getD i 0) / 2 ∈ T.map (· / 2) := by rw [mt_div]; exact on_tie hi
/-! ### what is reached -/
abbrev S (D : Dr) (T : List Int) (e : Int) : Prop := Reach D T (T.getD 0 0) e
theorem S_off {x : Int} (h : S D T x) (o : x / 2 ∉ T.map (· / 2)) : S D T (sig D x) := by
  have := (h.cross o).step
  rw [mt_mt] at this
  exact this
theorem Cut.S_left (c : Cut D C T m L R) {i : Nat} (hi : i < T.length) (h : S D T (T.getD (pr T.length i) 0)) : ∀ x ∈ L i ++ [T.getD i 0], S D T x :=
  chain (c.conL hi) (by rw [prv_pr]; exact h.step) fun x hx hs => S_off hs (c.side hi (.inl hx))
theorem Cut.S_b (c : Cut D C T m L R) : ∀ i, i < T.length → S D T (T.getD i 0)
  | 0, _ => .base
  | i + 1, hi => by
    refine c.S_left hi ?_ _ (List.mem_append_right _ (List.mem_singleton.mpr rfl))
    show S D T (T.getD (pr T.length (i + 1)) 0)
    have : pr T.length (i + 1) = i := by unfold pr; rw [if_neg (by omega)]; rfl
    rw [this]
    exact c.S_b i (by omega)
theorem Cut.S_L (c : Cut D C T m L R) {i : Nat} (hi : i < T.length) {x : Int} (hx : x ∈ L i) : S D T x := c.S_left hi (c.S_b _ (pr_lt hi)) x (List.mem_append_left _ hx)
theorem Cut.S_right (c : Cut D C T m L R) {i : Nat} (hi : i < T.length) (h : S D T (mt (T.getD i 0))) : S D T (mt (prv T i)) := by
  have h1 := h.step
  rw [mt_mt] at h1
  exact chain (c.conR hi) h1 (fun x hx hs => S_off hs (c.side hi (.inr hx))) _ (List.mem_append_right _ (List.mem_singleton.mpr rfl))
theorem Cut.S_down (c : Cut D C T m L R) : ∀ i, i < T.length → S D T (mt (T.getD i 0)) → S D T (mt (T.getD 0 0))
  | 0, _, h => h
  | i + 1, hi, h => by
    have h1 := c.S_right hi h
    have : pr T.length (i + 1) = i := by unfold pr; rw [if_neg (by omega)]; rfl
    rw [prv_pr, this] at h1
    exact c.S_down i (by omega) h1
theorem Cut.S_R (c : Cut D C T m L R) {i : Nat} (hi : i < T.length) {x : Int} (hx : x ∈ R i) (h : S D T x) : S D T (mt (T.getD 0 0)) := by
  obtain ⟨u, w, hw⟩ := List.append_of_mem hx
  have hc := c.conR hi
  have e : T.getD i 0 :: (R i ++ [mt (prv T i)]) = (T.getD i 0 :: u) ++ ((x :: (w ++ [mt (prv T i)])) ++ []) := by rw [hw]; simp
  rw [e] at hc
  have := chain hc.mid (S_off h (c.side hi (.inr hx))) (fun y hy hs => S_off hs (c.side hi (.inr (by rw [hw]; exact List.mem_append_right _ (List.mem_cons_of_mem _ hy))))) _ (List.mem_append_right _ (List.mem_singleton.mpr rfl))
  rw [prv_pr] at this
  exact c.S_down _ (pr_lt hi) this
/-! ### from the lands to the places -/
/-- where an end's land lies, in the cut drawing -/
def At (D C : Dr) (T : List Int) (e : Int) (q : Nat) : Prop := (∃ j, j < T.length ∧ e = mt (T.getD j 0) ∧ q = D.length + su T.length j) ∨ ((∀ j, j < T.length → e ≠ mt (T.getD j 0)) ∧ q = seat C e)
theorem at_off {e : Int} (o : e / 2 ∉ T.map (· / 2)) : At D C T e (seat C e) := .inr ⟨fun j hj h => o (h ▸ on_mt hj), rfl⟩
theorem Cut.b_ne (c : Cut D C T m L R) {i : Nat} (hi : i < T.length) : ∀ j, j < T.length → T.getD i 0 ≠ mt (T.getD j 0) := fun j hj h => by
  have := turn_tie c.t (get_some hi) (get_some hj) (by rw [h, mt_div])
  subst this
  exact mt_ne _ h.symm
/-- behind an end off the round -/
theorem Cut.next (c : Cut D C T m L R) {x : Int} (hx : x ∈ D.flatten) (o : x / 2 ∉ T.map (· / 2)) : At D C T (sig D x) (seat C x) := by
  have hsig : ∀ {p : Nat} {r : List Int}, D[p]? = some r → x ∈ r → sig D x ∈ r := fun {p r} hr hm => by
    obtain ⟨j, hj⟩ := List.mem_iff_getElem?.mp hm
    exact List.mem_of_getElem? (sig_row c.v.nd hr hj)
  obtain ⟨r, hr, hm⟩ := seat_at hx
  by_cases hp : seat D x ∈ T.map (seat D)
  · obtain ⟨t, ht, hs⟩ := List.mem_map.mp hp
    obtain ⟨i, hi⟩ := List.mem_iff_getElem?.mp ht
    have hil := (List.getElem?_eq_some_iff.mp hi).1
    have hg : T.getD i 0 = t := getD_of hi
    have hmm := mem_seat hx
    rw [← hs, ← hg] at hmm
    have hna : x ≠ mt (prv T i) := fun q => o (by rw [q, mt_div]; exact List.mem_map.mpr ⟨_, prv_in hil, rfl⟩)
    have hnb : x ≠ T.getD i 0 := fun q => o (by rw [q]; exact on_tie hil)
    rcases c.cases hil hmm with h | h | h | h
    · exact absurd h hna
    · -- at the left
      have hsx : seat C x = seat D (T.getD i 0) := c.stC (.left hil (.inr (.inl h)))
      have hy : sig D x ∈ L i ++ [T.getD i 0] := by
        obtain ⟨j, hj⟩ := List.mem_iff_getElem?.mp h
        have hjl := (List.getElem?_eq_some_iff.mp hj).1
        have h1 : (mt (prv T i) :: (L i ++ [T.getD i 0]))[j + 1]? = some x := by
          show (L i ++ [T.getD i 0])[j]? = some x
          rw [List.getElem?_append_left hjl]; exact hj
        have hl2 : j + 1 < (L i ++ [T.getD i 0]).length := by rw [List.length_append, List.length_singleton]; omega
        have h2 : (mt (prv T i) :: (L i ++ [T.getD i 0]))[j + 1 + 1]? = some (L i ++ [T.getD i 0])[j + 1] := by
          show (L i ++ [T.getD i 0])[j + 1]? = _
          exact List.getElem?_eq_getElem hl2
        rw [c.conL hil _ _ _ h1 h2]
        exact List.getElem_mem hl2
      rcases List.mem_append.mp hy with hy | hy
      · rw [hsx, ← c.stC (.left hil (.inr (.inl hy)))]
        exact at_off (c.side hil (.inl hy))
      · have hy := List.mem_singleton.mp hy
        rw [hy]
        exact .inr ⟨c.b_ne hil, by rw [hsx, c.stC (c.bAt hil)]⟩
    · exact absurd h hnb
    · -- at the right
      have hsx : seat C x = D.length + i := c.stC (.right hil h)
      have hy : sig D x ∈ R i ++ [mt (prv T i)] := by
        obtain ⟨j, hj⟩ := List.mem_iff_getElem?.mp h
        have hjl := (List.getElem?_eq_some_iff.mp hj).1
        have h1 : (T.getD i 0 :: (R i ++ [mt (prv T i)]))[j + 1]? = some x := by
          show (R i ++ [mt (prv T i)])[j]? = some x
          rw [List.getElem?_append_left hjl]; exact hj
        have hl2 : j + 1 < (R i ++ [mt (prv T i)]).length := by rw [List.length_append, List.length_singleton]; omega
        have h2 : (T.getD i 0 :: (R i ++ [mt (prv T i)]))[j + 1 + 1]? = some (R i ++ [mt (prv T i)])[j + 1] := by
          show (R i ++ [mt (prv T i)])[j + 1]? = _
          exact List.getElem?_eq_getElem hl2
        rw [c.conR hil _ _ _ h1 h2]
        exact List.getElem_mem hl2
      rcases List.mem_append.mp hy with hy | hy
      · rw [hsx, ← c.stC (.right hil hy)]
        exact at_off (c.side hil (.inr hy))
      · have hy := List.mem_singleton.mp hy
        rw [hy, prv_pr]
        exact .inl ⟨_, pr_lt hil, rfl, by rw [hsx, su_pr hil]⟩
  · have hy := hsig hr hm
    have hys : seat D (sig D x) = seat D x := seat_of c.v.nd hr hy
    have hyf : sig D x ∈ D.flatten := mem_flat.mpr ⟨_, _, hr, hy⟩
    refine .inr ⟨fun j hj q => hp ?_, ?_⟩
    · rw [← hys, q, turn_next c.t hj]
      exact List.mem_map.mpr ⟨_, get_in (su_lt hj), rfl⟩
    · rw [c.stC (.off hx hp), c.stC (.off hyf (hys ▸ hp)), hys]
theorem Cut.k0 (c : Cut D C T m L R) : 0 < T.length := List.length_pos_iff.mpr c.t.ne
theorem Cut.reach (c : Cut D C T m L R) {e : Int} (h : S D T e) : e ∈ D.flatten ∧ ∀ q, At D C T e q → Cn C (seat D (T.getD 0 0)) q := by
  have k0 := c.k0
  have cv := c.valid
  have inC : ∀ {x : Int}, x ∈ D.flatten → x ∈ C.getD (seat C x) [] := fun {x} hx => by
    obtain ⟨q, hq⟩ := c.ex hx
    exact mem_seat (c.flat hq)
  have sigf : ∀ {x : Int}, x ∈ D.flatten → sig D x ∈ D.flatten := fun {x} hx => by
    obtain ⟨r, hr, hm⟩ := seat_at hx
    obtain ⟨j, hj⟩ := List.mem_iff_getElem?.mp hm
    exact mem_flat.mpr ⟨_, _, hr, List.mem_of_getElem? (sig_row c.v.nd hr hj)⟩
  have at1 : ∀ {x : Int} {q q' : Nat}, At D C T x q → At D C T x q' → q = q' := fun {x q q'} a b => by
    rcases a with ⟨j, hj, h1, h2⟩ | ⟨h1, h2⟩ <;> rcases b with ⟨i, hi, h3, h4⟩ | ⟨h3, h4⟩
    · have e1 : T.getD j 0 = T.getD i 0 := by rw [← mt_mt (T.getD j 0), ← h1, h3, mt_mt]
      have := turn_tie c.t (get_some hj) (get_some hi) (by rw [e1])
      subst this
      rw [h2, h4]
    · exact absurd h1 (h3 j hj)
    · exact absurd h3 (h1 i hi)
    · rw [h2, h4]
  induction h with
  | base =>
    refine ⟨c.inD k0, fun q hq => ?_⟩
    have : At D C T (T.getD 0 0) (seat C (T.getD 0 0)) := .inr ⟨c.b_ne k0, rfl⟩
    rw [at1 hq this, c.stC (c.bAt k0)]
    exact Cn.refl _ _
  | step h ih =>
    rename_i e
    obtain ⟨hf, ih⟩ := ih
    have hmf := c.v.mt hf
    refine ⟨sigf hmf, fun q hq => ?_⟩
    by_cases o : e / 2 ∈ T.map (· / 2)
    · obtain ⟨i, hi, he | he⟩ := c.onoff o
      · -- along the round, at its left
        have h1 := ih _ (.inr ⟨he ▸ c.b_ne hi, rfl⟩)
        have hedge := Cn.edge (inC hf)
        rw [he, c.stC (c.aAt hi)] at hedge
        rw [he] at h1
        refine h1.trans ?_
        have hc := c.conL (su_lt hi)
        rw [prv_pr, pr_su hi] at hc
        have hy : At D C T (sig D (mt e)) (seat D (T.getD (su T.length i) 0)) := by
          rw [he]
          cases hL : L (su T.length i) with
          | nil =>
            rw [hL] at hc
            rw [show sig D (mt (T.getD i 0)) = T.getD (su T.length i) 0 from hc.head]
            exact .inr ⟨c.b_ne (su_lt hi), (c.stC (c.bAt (su_lt hi))).symm⟩
          | cons y l =>
            rw [hL] at hc
            have hyL : y ∈ L (su T.length i) := by rw [hL]; exact List.mem_cons_self
            rw [show sig D (mt (T.getD i 0)) = y from hc.head, ← c.stC (.left (su_lt hi) (.inr (.inl hyL)))]
            exact at_off (c.side (su_lt hi) (.inl hyL))
        rw [at1 hq hy]
        exact hedge
      · -- along the copy, at its right
        have h1 := ih _ (.inl ⟨i, hi, he, rfl⟩)
        have hedge := Cn.edge (c.of_at (c.oddAt hi))
        rw [mt_odd, c.stC (.even hi)] at hedge
        refine h1.trans ?_
        have hc := c.conR hi
        have hy : At D C T (sig D (mt e)) (D.length + i) := by
          rw [he, mt_mt]
          cases hR : R i with
          | nil =>
            rw [hR] at hc
            rw [show sig D (T.getD i 0) = mt (prv T i) from hc.head, prv_pr]
            exact .inl ⟨_, pr_lt hi, rfl, by rw [su_pr hi]⟩
          | cons y l =>
            rw [hR] at hc
            have hyR : y ∈ R i := by rw [hR]; exact List.mem_cons_self
            rw [show sig D (T.getD i 0) = y from hc.head, ← c.stC (.right hi hyR)]
            exact at_off (c.side hi (.inr hyR))
        rw [at1 hq hy]
        exact hedge
    · have h1 := ih _ (at_off o)
      have hedge := Cn.edge (inC hf)
      rw [at1 hq (c.next hmf (by rw [mt_div]; exact o))]
      exact h1.trans hedge
  | cross h o ih =>
    rename_i e
    obtain ⟨hf, ih⟩ := ih
    refine ⟨c.v.mt hf, fun q hq => ?_⟩
    have h1 := ih _ (at_off o)
    rw [at1 hq (at_off (by rw [mt_div]; exact o))]
    exact h1.trans (Cn.edge (inC hf))
/-- where it does not part its floor, a way leads back -/
theorem Cut.way (c : Cut D C T m L R) (h : ¬ Parted D T) : ∃ i, i < T.length ∧ ∃ w, Path C (D.length + i) w (seat C (T.getD i 0)) := by
  have k0 := c.k0
  have hS : S D T (mt (T.getD 0 0)) := Classical.not_not.mp h
  have h1 := (c.reach hS).2 _ (.inl ⟨0, k0, rfl, rfl⟩)
  have h2 := Cn.edge (c.of_at (c.bAt k0))
  rw [c.stC (c.aAt k0)] at h2
  have h3 := (h1.symm c.valid).trans h2
  rw [← c.stC (c.bAt (su_lt k0))] at h3
  obtain ⟨w, hw⟩ := h3
  exact ⟨_, su_lt k0, w, hw⟩
/-! ### from the places to the lands -/
/-- the places at the left -/
def Tnd (D : Dr) (T : List Int) (q : Nat) : Prop := (∃ i, i < T.length ∧ q = seat D (T.getD i 0)) ∨ (q < D.length ∧ q ∉ T.map (seat D) ∧ ∃ e ∈ D.getD q [], S D T e)
theorem Cut.tt_of (c : Cut D C T m L R) (hp : Parted D T) {f : Int} (hf : f ∈ D.flatten) (o : f / 2 ∉ T.map (· / 2)) (h : S D T f) : Tnd D T (seat C f) := by
  by_cases hq : seat D f ∈ T.map (seat D)
  · obtain ⟨t, ht, hs⟩ := List.mem_map.mp hq
    obtain ⟨i, hi⟩ := List.mem_iff_getElem?.mp ht
    have hil := (List.getElem?_eq_some_iff.mp hi).1
    have hg : T.getD i 0 = t := getD_of hi
    have hmm := mem_seat hf
    rw [← hs, ← hg] at hmm
    rcases c.cases hil hmm with h1 | h1 | h1 | h1
    · exact absurd (by rw [h1, mt_div]; exact List.mem_map.mpr ⟨_, prv_in hil, rfl⟩) o
    · rw [c.stC (.left hil (.inr (.inl h1)))]; exact .inl ⟨i, hil, rfl⟩
    · exact absurd (by rw [h1]; exact on_tie hil) o
    · exact absurd (c.S_R hil h1 h) hp
  · rw [c.stC (.off hf hq)]
    exact .inr ⟨seat_lt hf, hq, f, mem_seat hf, h⟩
theorem Cut.tt_step (c : Cut D C T m L R) (hp : Parted D T) {q : Nat} {e : Int} (h : Tnd D T q) (he : e ∈ C.getD q []) : Tnd D T (seat C (mt e)) := by
  have hn : ∀ {i : Nat}, i < T.length → ¬ Tnd D T (D.length + i) := fun {i} hi h => by
    rcases h with ⟨j, hj, e⟩ | ⟨hl, _⟩
    · have := c.plt hj; omega
    · omega
  cases c.at_of he with
  | off hf hq =>
    rcases h with ⟨i, hi, e1⟩ | ⟨_, _, x, hx, hS⟩
    · exact absurd (e1 ▸ List.mem_map.mpr ⟨_, get_in hi, rfl⟩) hq
    · -- all round the place
      obtain ⟨r, hr, hm⟩ := mem_of_getD hx
      have offr : ∀ y ∈ r, y / 2 ∉ T.map (· / 2) := fun y hy o => by
        have hys : seat D y = seat D e := seat_of c.v.nd hr hy
        obtain ⟨j, hj, h1 | h1⟩ := c.onoff o
        · exact hq (by rw [← hys, h1]; exact List.mem_map.mpr ⟨_, get_in hj, rfl⟩)
        · exact hq (by rw [← hys, h1, turn_next c.t hj]; exact List.mem_map.mpr ⟨_, get_in (su_lt hj), rfl⟩)
      have her : e ∈ r := by
        have := mem_seat hf
        rw [getD_of hr] at this; exact this
      obtain ⟨u, w, hw⟩ := List.append_of_mem hm
      have hc := con_twice c.v.nd hr
      have e2 : r ++ r = u ++ ((x :: (w ++ u)) ++ (x :: w)) := by rw [hw]; simp
      rw [e2] at hc
      have all := chain_all hc.mid hS (fun y hy hs => S_off hs (offr y (by
        rw [hw]
        rcases List.mem_cons.mp hy with rfl | hy
        · exact List.mem_append_right _ List.mem_cons_self
        · rcases List.mem_append.mp hy with hy | hy
          · exact List.mem_append_right _ (List.mem_cons_of_mem _ hy)
          · exact List.mem_append_left _ hy)))
      have hSe : S D T e := by
        rw [hw] at her
        rcases List.mem_append.mp her with h1 | h1
        · exact all e (List.mem_append_right _ h1)
        · rcases List.mem_cons.mp h1 with h1 | h1
          · rw [h1]; exact hS
          · exact all e (List.mem_append_left _ h1)
      exact c.tt_of hp (c.v.mt hf) (by rw [mt_div]; exact offr e her) (hSe.cross (offr e her))
  | left hi h1 =>
    rename_i i
    rcases h1 with h1 | h1 | h1
    · rw [h1, mt_mt, prv_pr, c.stC (c.bAt (pr_lt hi))]
      exact .inl ⟨_, pr_lt hi, rfl⟩
    · have o := c.side hi (.inl h1)
      have hf := flat_of_getD (c.sL hi h1)
      exact c.tt_of hp (c.v.mt hf) (by rw [mt_div]; exact o) ((c.S_L hi h1).cross o)
    · rw [h1, c.stC (c.aAt hi)]
      exact .inl ⟨_, su_lt hi, rfl⟩
  | right hi _ => exact absurd h (hn hi)
  | even hi => exact absurd h (hn hi)
  | odd hi => exact absurd h (hn hi)
theorem Cut.tt_path (c : Cut D C T m L R) (hp : Parted D T) : ∀ {w : List Int} {p q : Nat}, Path C p w q → Tnd D T p → Tnd D T q
  | [], p, q, h, t => (show p = q from h) ▸ t
  | e :: w, p, q, h, t => c.tt_path hp h.2 (c.tt_step hp t h.1)
theorem Cut.noway (c : Cut D C T m L R) (h : Parted D T) {i : Nat} (hi : i < T.length) (w : List Int) : ¬ Path C (D.length + i) w (seat C (T.getD i 0)) := fun hw => by
  obtain ⟨u, hu, _⟩ := path_back c.valid hw
  rw [c.stC (c.bAt hi)] at hu
  rcases c.tt_path h hu (.inl ⟨i, hi, rfl⟩) with ⟨j, hj, e⟩ | ⟨hl, _⟩
  · have := c.plt hj; omega
  · omega
end
end RF

/-! Mathematics: a shortest way back is a round that crosses once. -/
namespace RF
theorem sum_rev (f : Int → Int) : ∀ l : List Int, (l.reverse.map f).sum = (l.map f).sum
  | [] => rfl
  | x :: l => by
    rw [List.reverse_cons, List.map_append, List.sum_append, sum_rev f l, List.map_cons, List.sum_cons]
    simp only [List.map_cons, List.map_nil, List.sum_cons, List.sum_nil]
    omega
section
variable {D C : Dr} {m : Nat} {T : List Int} {L R : Nat → List Int}
theorem old_lo {e : Int} (h : e < 2 * (m : Int)) : oldE T m e = e := if_pos h
theorem old_even (i : Nat) : oldE T m (2 * (m : Int) + 2 * (i : Int)) = T.getD i 0 := by
  unfold oldE
  rw [if_neg (by omega), if_neg (by omega)]
  congr 1; omega
theorem old_odd (i : Nat) : oldE T m (2 * (m : Int) + 2 * (i : Int) + 1) = mt (T.getD i 0) := by
  unfold oldE
  rw [if_neg (by omega), if_pos (by omega)]
  congr 2; omega
/-- the drawing's place of a place of the cut drawing -/
def prj (D : Dr) (T : List Int) (q : Nat) : Nat := if q < D.length then q else seat D (T.getD (q - D.length) 0)
theorem prj_new (i : Nat) : prj D T (D.length + i) = seat D (T.getD i 0) := by
  unfold prj
  rw [if_neg (by omega), Nat.add_sub_cancel_left]
theorem Cut.prj_b (c : Cut D C T m L R) {i : Nat} (hi : i < T.length) : prj D T (seat D (T.getD i 0)) = seat D (T.getD i 0) := if_pos (c.plt hi)
theorem Cut.old_at (c : Cut D C T m L R) {e : Int} {q : Nat} (h : CAt D T m L R e q) : oldE T m e ∈ D.flatten ∧ seat D (oldE T m e) = prj D T q ∧ oldE T m (mt e) = mt (oldE T m e) := by
  have lo : ∀ {x : Int}, x ∈ D.flatten → oldE T m x = x ∧ oldE T m (mt x) = mt x := fun {x} hx => by
    have := c.v.rg x hx
    exact ⟨old_lo this.2, old_lo (mt_hi this.2)⟩
  cases h with
  | off hf hp => rw [(lo hf).1, (lo hf).2]; exact ⟨hf, (if_pos (seat_lt hf)).symm, rfl⟩
  | left hi h =>
    have hr := c.lrow hi h
    have hf := flat_of_getD hr
    rw [(lo hf).1, (lo hf).2, seat_of' c.v.nd hr]
    exact ⟨hf, (c.prj_b hi).symm, rfl⟩
  | right hi h =>
    have hr := c.sR hi h
    have hf := flat_of_getD hr
    rw [(lo hf).1, (lo hf).2, seat_of' c.v.nd hr]
    exact ⟨hf, (prj_new _).symm, rfl⟩
  | even hi => rw [mt_even, old_even, old_odd]; exact ⟨c.inD hi, (prj_new _).symm, rfl⟩
  | odd hi =>
    rw [mt_odd, old_even, old_odd, mt_mt]
    refine ⟨c.v.mt (c.inD (pr_lt hi)), ?_, rfl⟩
    rw [turn_next c.t (pr_lt hi), su_pr hi, prj_new]
theorem Cut.cat (c : Cut D C T m L R) {e : Int} (h : e ∈ C.flatten) : CAt D T m L R e (seat C e) := c.at_of (mem_seat h)
open Classical in
/-- 1 at a place at the left edge -/
noncomputable def uP (D : Dr) (T : List Int) (q : Nat) : Int := if ∃ i, i < T.length ∧ q = seat D (T.getD i 0) then 1 else 0
theorem uP1 {i : Nat} (hi : i < T.length) : uP D T (seat D (T.getD i 0)) = 1 := if_pos ⟨i, hi, rfl⟩
theorem Cut.uP0 (c : Cut D C T m L R) (i : Nat) : uP D T (D.length + i) = 0 := if_neg fun ⟨j, hj, e⟩ => by
  have := c.plt hj; omega
theorem Cut.lft (c : Cut D C T m L R) {e : Int} : Lft D T e ↔ ∃ i, i < T.length ∧ e ∈ L i := by
  constructor
  · rintro ⟨i, L', R', h, he⟩
    refine ⟨i, h.lt, ?_⟩
    have := rot_uniq (nodup_row c.v.nd (c.row h.lt)) h.rot (c.ring i h.lt).rot
    have hn := (List.nodup_cons.mp (c.rown h.lt)).2
    have hn' : (L' ++ T.getD i 0 :: R').Nodup := this ▸ hn
    have := (app_inj this (notin_app hn').1 (notin_app hn).1).1
    rw [← this]; exact he
  · rintro ⟨i, hi, he⟩
    exact ⟨i, L i, R i, c.ring i hi, he⟩
theorem Cut.cnt_on (c : Cut D C T m L R) {e : Int} (o : e / 2 ∈ T.map (· / 2)) : cnt D T e = 0 := if_neg fun h => by
  obtain ⟨i, hi, he⟩ := c.lft.mp h
  exact c.side hi (.inl he) o
theorem Cut.cnt_off (c : Cut D C T m L R) {e : Int} (hf : e ∈ D.flatten) (o : e / 2 ∉ T.map (· / 2)) : cnt D T e = uP D T (seat C e) := by
  by_cases h : Lft D T e
  · obtain ⟨i, hi, he⟩ := c.lft.mp h
    rw [c.stC (.left hi (.inr (.inl he))), uP1 hi]
    exact if_pos h
  · have h0 : cnt D T e = 0 := if_neg h
    rw [h0]
    symm
    refine if_neg fun ⟨i, hi, hq⟩ => h ?_
    obtain ⟨q, hat⟩ := c.ex hf
    have hs := c.stC hat
    rw [hq] at hs
    have hr := c.of_at hat
    rw [← hs] at hr
    have hcases := List.mem_cons.mp ((c.old i hi).mem_iff.mp hr)
    rcases hcases with h1 | h1
    · exact absurd (by rw [h1, mt_div]; exact List.mem_map.mpr ⟨_, prv_in hi, rfl⟩) o
    · rcases List.mem_append.mp h1 with h1 | h1
      · exact c.lft.mpr ⟨i, hi, h1⟩
      · rw [List.mem_singleton.mp h1] at o
        exact absurd (on_tie hi) o
theorem Cut.copy (c : Cut D C T m L R) {e : Int} (h : e ∈ C.flatten) (hm : ¬ e < 2 * (m : Int)) : ∃ i, i < T.length ∧ (e = 2 * (m : Int) + 2 * (i : Int) ∨ e = 2 * (m : Int) + 2 * (i : Int) + 1) := by
  have := c.valid.rg e h
  exact ⟨((e - 2 * m) / 2).toNat, by omega, by omega⟩
theorem Cut.term (c : Cut D C T m L R) {e : Int} (he : e ∈ C.flatten) : cnt D T (mt (oldE T m e)) - cnt D T (oldE T m e) = uP D T (seat C (mt e)) - uP D T (seat C e) := by
  by_cases hm : e < 2 * (m : Int)
  · rw [old_lo hm]
    have hf : e ∈ D.flatten := c.v.mem (c.valid.rg e he).1 hm
    by_cases o : e / 2 ∈ T.map (· / 2)
    · rw [c.cnt_on o, c.cnt_on (by rw [mt_div]; exact o)]
      obtain ⟨i, hi, h | h⟩ := c.onoff o
      · rw [h, c.stC (c.bAt hi), c.stC (c.aAt hi), uP1 hi, uP1 (su_lt hi)]; rfl
      · rw [h, mt_mt, c.stC (c.bAt hi), c.stC (c.aAt hi), uP1 hi, uP1 (su_lt hi)]; rfl
    · rw [c.cnt_off hf o, c.cnt_off (c.v.mt hf) (by rw [mt_div]; exact o)]
  · obtain ⟨i, hi, h | h⟩ := c.copy he hm
    · rw [h, mt_even, old_even, c.cnt_on (on_tie hi), c.cnt_on (on_mt hi), c.stC (.even hi), c.stC (c.oddAt hi), c.uP0, c.uP0]
    · rw [h, mt_odd, old_odd, mt_mt, c.cnt_on (on_tie hi), c.cnt_on (on_mt hi), c.stC (.even hi), c.stC (c.oddAt hi), c.uP0, c.uP0]
theorem path_flat : ∀ {w : List Int} {p q : Nat}, Path C p w q → ∀ e ∈ w, e ∈ C.flatten
  | [], _, _, _, e, he => by cases he
  | x :: w, p, q, h, e, he => by
    rcases List.mem_cons.mp he with rfl | he
    · exact flat_of_getD h.1
    · exact path_flat h.2 e he
theorem Cut.tele (c : Cut D C T m L R) : ∀ {w : List Int} {p q : Nat}, Path C p w q → (w.map fun e => cnt D T (mt (oldE T m e)) - cnt D T (oldE T m e)).sum = uP D T q - uP D T p
  | [], p, q, h => by
    have h : p = q := h
    subst h
    simp
  | e :: w, p, q, h => by
    rw [List.map_cons, List.sum_cons, c.tele h.2, c.term (flat_of_getD h.1), seat_of' c.nd h.1]
    omega
theorem Cut.crosses (c : Cut D C T m L R) {w : List Int} {i : Nat} (hi : i < T.length) (h : Path C (D.length + i) w (seat C (T.getD i 0))) : crossing D T (over T m w) = 1 := by
  have h1 := c.tele h
  rw [c.stC (c.bAt hi), uP1 hi, c.uP0] at h1
  unfold crossing over
  rw [List.map_map, sum_rev, List.map_map]
  have e : (w.map ((((fun e => cnt D T e - cnt D T (mt e)) ∘ mt)) ∘ oldE T m)) = w.map fun e => cnt D T (mt (oldE T m e)) - cnt D T (oldE T m e) := by
    apply List.map_congr_left
    intro x _
    show cnt D T (mt (oldE T m x)) - cnt D T (mt (mt (oldE T m x))) = _
    rw [mt_mt]
  rw [e, h1]; rfl
/-! ### the way's places are unlike -/
theorem split2 {w : List Int} {i j : Nat} {e f : Int} (hij : i < j) (hi : w[i]? = some e) (hj : w[j]? = some f) : ∃ u y x, w = u ++ ((e :: y) ++ (f :: x)) ∧ u.length = i ∧ i + 1 + y.length = j := by
  obtain ⟨h1, h2⟩ := List.getElem?_eq_some_iff.mp hi
  obtain ⟨h3, h4⟩ := List.getElem?_eq_some_iff.mp hj
  refine ⟨w.take i, (w.drop (i + 1)).take (j - (i + 1)), w.drop (j + 1), ?_, by rw [List.length_take]; omega, by rw [List.length_take, List.length_drop]; omega⟩
  have a1 : w = w.take i ++ w.drop i := (List.take_append_drop i w).symm
  have a2 : w.drop i = e :: w.drop (i + 1) := by rw [List.drop_eq_getElem_cons h1, h2]
  have a3 : w.drop (i + 1) = (w.drop (i + 1)).take (j - (i + 1)) ++ (w.drop (i + 1)).drop (j - (i + 1)) := (List.take_append_drop _ _).symm
  have a4 : (w.drop (i + 1)).drop (j - (i + 1)) = f :: w.drop (j + 1) := by
    rw [List.drop_drop, show i + 1 + (j - (i + 1)) = j by omega, List.drop_eq_getElem_cons h3, h4]
  rw [a4] at a3
  rw [a3] at a2
  rw [a2] at a1
  exact a1
/-- of all ways back from a new place to the old one beside it none is shorter -/
structure Least (D C : Dr) (T : List Int) (i0 : Nat) (w : List Int) : Prop where
  lt : i0 < T.length
  way : Path C (D.length + i0) w (seat C (T.getD i0 0))
  min : ∀ j, j < T.length → ∀ v, Path C (D.length + j) v (seat C (T.getD j 0)) → w.length ≤ v.length
theorem path_lt (hl : C.length = D.length + T.length) {p q : Nat} {e : Int} {w : List Int} (h : Path C p (e :: w) q) : p < D.length + T.length := by
  obtain ⟨r, hr, _⟩ := mem_of_getD h.1
  rw [← hl]
  exact (List.getElem?_eq_some_iff.mp hr).1
theorem Cut.unlike (c : Cut D C T m L R) {i0 : Nat} {w : List Int} (l : Least D C T i0 w) {i j : Nat} {e f : Int} (hij : i < j) (hi : w[i]? = some e) (hj : w[j]? = some f) : prj D T (seat C e) ≠ prj D T (seat C f) := by
  obtain ⟨u, y, x, hw, hu, hy⟩ := split2 hij hi hj
  have hl := l.way
  rw [hw] at hl
  obtain ⟨s1, g1, g2⟩ := path_split hl
  obtain ⟨s2, g3, g4⟩ := path_split (u := e :: y) (v := f :: x) g2
  have e1 : seat C e = s1 := seat_of' c.nd g3.1
  have e2 : seat C f = s2 := seat_of' c.nd g4.1
  rw [e1, e2]
  have hlen : w.length = u.length + ((y.length + 1) + (x.length + 1)) := by rw [hw]; simp only [List.length_append, List.length_cons]
  have q1 := path_lt c.len g3
  have q2 := path_lt c.len g4
  intro hp
  by_cases h1 : s1 = s2
  · -- a way cut short
    rw [h1] at g1
    have := l.min i0 l.lt _ (path_app g1 g4)
    rw [List.length_append, List.length_cons] at this
    omega
  · by_cases a1 : s1 < D.length <;> by_cases a2 : s2 < D.length
    · unfold prj at hp
      rw [if_pos a1, if_pos a2] at hp
      exact h1 hp
    · -- from an old place to the new one beside it
      have e3 : s2 = D.length + (s2 - D.length) := by omega
      have hj2 : s2 - D.length < T.length := by omega
      rw [e3, prj_new] at hp
      have e4 : s1 = seat D (T.getD (s2 - D.length) 0) := by
        rw [← hp]; exact (if_pos a1).symm
      rw [e3, e4] at g3
      obtain ⟨b, hb1, hb2⟩ := path_back c.valid g3
      rw [← c.stC (c.bAt hj2)] at hb1
      have := l.min _ hj2 _ hb1
      rw [hb2, List.length_cons] at this
      omega
    · have e3 : s1 = D.length + (s1 - D.length) := by omega
      have hj2 : s1 - D.length < T.length := by omega
      rw [e3, prj_new] at hp
      have e4 : s2 = seat D (T.getD (s1 - D.length) 0) := by
        rw [hp]; exact (if_pos a2).symm
      rw [e3, e4, ← c.stC (c.bAt hj2)] at g3
      have := l.min _ hj2 _ g3
      rw [List.length_cons] at this
      omega
    · have e3 : s1 = D.length + (s1 - D.length) := by omega
      have e4 : s2 = D.length + (s2 - D.length) := by omega
      rw [e3, e4, prj_new, prj_new] at hp
      have := turn_seat c.t (get_some (show s1 - D.length < T.length by omega)) (get_some (show s2 - D.length < T.length by omega)) hp
      omega
end
end RF

/-! Mathematics: the way back is a round; a round walked the other way is one. -/
namespace RF
section
variable {D C : Dr} {m : Nat} {T : List Int} {L R : Nat → List Int}
/-- consecutive ends of a way -/
theorem path_next {C : Dr} (hn : C.flatten.Nodup) : ∀ {w : List Int} {p q : Nat}, Path C p w q → ∀ (j : Nat) (x y : Int), w[j]? = some x → w[j + 1]? = some y → seat C (mt x) = seat C y
  | [], _, _, _, j, x, y, h, _ => by simp at h
  | [e], _, _, _, j, x, y, _, h => by simp at h
  | e :: f :: w, p, q, h, 0, x, y, hx, hy => by
    have e1 : e = x := Option.some.inj hx
    have e2 : f = y := Option.some.inj hy
    subst e1 e2
    exact (seat_of' hn h.2.1).symm
  | e :: f :: w, p, q, h, j + 1, x, y, hx, hy => path_next hn h.2 j x y hx hy
theorem path_first {C : Dr} (hn : C.flatten.Nodup) {w : List Int} {p q : Nat} {x : Int} (h : Path C p w q) (hx : w[0]? = some x) : seat C x = p := by
  cases w with
  | nil => cases hx
  | cons e w =>
    have e1 : e = x := Option.some.inj hx
    subst e1
    exact seat_of' hn h.1
theorem path_last {C : Dr} : ∀ {w : List Int} {p q : Nat} {x : Int}, Path C p w q → w[w.length - 1]? = some x → seat C (mt x) = q
  | [], _, _, _, _, hx => by cases hx
  | [e], p, q, x, h, hx => by
    have e1 : e = x := Option.some.inj hx
    subst e1
    exact h.2
  | e :: f :: w, p, q, x, h, hx => path_last (w := f :: w) h.2 hx
theorem nodup_by {α : Type} {W : List Int} (g : Int → α) (h : ∀ (i j : Nat), i < W.length → j < W.length → i < j → g (W.getD i 0) ≠ g (W.getD j 0)) : (W.map g).Nodup := by
  refine List.pairwise_iff_getElem.mpr fun i j hi hj hij => ?_
  rw [List.length_map] at hi hj
  have a1 := get_some hi
  have a2 := get_some hj
  rw [List.getElem?_eq_getElem hi] at a1
  rw [List.getElem?_eq_getElem hj] at a2
  rw [List.getElem_map, List.getElem_map, Option.some.inj a1, Option.some.inj a2]
  exact h i j hi hj hij
theorem nodup_rev {α : Type} {l : List α} (h : l.Nodup) : l.reverse.Nodup := (List.reverse_perm l).nodup_iff.mpr h
theorem Cut.ne_nil (c : Cut D C T m L R) {i0 : Nat} {w : List Int} (l : Least D C T i0 w) : w ≠ [] := by
  rintro rfl
  have h : D.length + i0 = seat C (T.getD i0 0) := l.way
  rw [c.stC (c.bAt l.lt)] at h
  have := c.plt l.lt
  omega
theorem Cut.old_seat (c : Cut D C T m L R) {e : Int} (h : e ∈ C.flatten) : oldE T m e ∈ D.flatten ∧ seat D (oldE T m e) = prj D T (seat C e) ∧ oldE T m (mt e) = mt (oldE T m e) := c.old_at (c.cat h)
/-- the way, told in the drawing: closed -/
theorem Cut.closed (c : Cut D C T m L R) {i0 : Nat} {w : List Int} (l : Least D C T i0 w) (j : Nat) (hj : j < w.length) :
    seat D (mt ((w.map (oldE T m)).getD j 0)) = seat D ((w.map (oldE T m)).getD (su w.length j) 0) := by
  have wf := path_flat l.way
  have hx : w[j]? = some w[j] := List.getElem?_eq_getElem hj
  have g1 : (w.map (oldE T m)).getD j 0 = oldE T m w[j] := by rw [List.getD_eq_getElem?_getD, List.getElem?_map, hx]; rfl
  have hs := su_lt hj
  have hy : w[su w.length j]? = some w[su w.length j] := List.getElem?_eq_getElem hs
  have g2 : (w.map (oldE T m)).getD (su w.length j) 0 = oldE T m w[su w.length j] := by rw [List.getD_eq_getElem?_getD, List.getElem?_map, hy]; rfl
  obtain ⟨a1, a2, a3⟩ := c.old_seat (wf _ (List.mem_of_getElem? hx))
  obtain ⟨b1, b2, b3⟩ := c.old_seat (wf _ (List.mem_of_getElem? hy))
  have hm := c.valid.mt (wf _ (List.mem_of_getElem? hx))
  rw [g1, g2, ← a3, (c.old_seat hm).2.1, b2]
  by_cases h : j + 1 = w.length
  · have e0 : su w.length j = 0 := if_pos h
    have hl : w[w.length - 1]? = some w[j] := by rw [show w.length - 1 = j by omega]; exact hx
    rw [path_last l.way hl, c.stC (c.bAt l.lt), c.prj_b l.lt]
    rw [path_first c.nd l.way (x := w[su w.length j]) (by rw [← hy, e0]), prj_new]
  · have e1 : su w.length j = j + 1 := if_neg h
    have hy' : w[j + 1]? = some w[su w.length j] := by rw [← hy, e1]
    rw [path_next c.nd l.way j _ _ hx hy']
theorem Cut.fwd (c : Cut D C T m L R) {i0 : Nat} {w : List Int} (l : Least D C T i0 w) : IsTurn D m (w.map (oldE T m)) := by
  have wf := path_flat l.way
  have hne := c.ne_nil l
  have hlen : (w.map (oldE T m)).length = w.length := List.length_map _
  have hget : ∀ {j : Nat}, j < w.length → (w.map (oldE T m))[j]? = some ((w.map (oldE T m)).getD j 0) := fun {j} hj => get_some (by rw [hlen]; exact hj)
  have hseat : ∀ {j : Nat} (hj : j < w.length), seat D ((w.map (oldE T m)).getD j 0) = prj D T (seat C w[j]) := fun {j} hj => by
    have hx : w[j]? = some w[j] := List.getElem?_eq_getElem hj
    have g1 : (w.map (oldE T m)).getD j 0 = oldE T m w[j] := by rw [List.getD_eq_getElem?_getD, List.getElem?_map, hx]; rfl
    rw [g1]
    exact (c.old_seat (wf _ (List.mem_of_getElem? hx))).2.1
  -- places
  have hpl : ∀ {i j : Nat}, i < w.length → j < w.length → seat D ((w.map (oldE T m)).getD i 0) = seat D ((w.map (oldE T m)).getD j 0) → i = j := fun {i j} hi hj h => by
    rw [hseat hi, hseat hj] at h
    rcases Nat.lt_trichotomy i j with hlt | heq | hgt
    · exact absurd h (c.unlike l hlt (List.getElem?_eq_getElem hi) (List.getElem?_eq_getElem hj))
    · exact heq
    · exact absurd h.symm (c.unlike l hgt (List.getElem?_eq_getElem hj) (List.getElem?_eq_getElem hi))
  refine ⟨fun q => hne (List.map_eq_nil_iff.mp q), ⟨fun e he => ?_, fun i hi => ?_⟩, nodup_by (W := w.map (oldE T m)) (seat D) fun i j hi hj hij h => ?_, nodup_by (W := w.map (oldE T m)) (· / 2) fun i j hi hj hij h => ?_⟩
  · obtain ⟨x, hx, rfl⟩ := List.mem_map.mp he
    exact c.v.rg _ (c.old_seat (wf x hx)).1
  · rw [hlen] at hi
    rw [prv_pr, hlen, c.closed l _ (pr_lt hi), su_pr hi]
  · rw [hlen] at hi hj
    have := hpl hi hj h
    omega
  · -- unlike ties
    rw [hlen] at hi hj
    have hne2 : (w.map (oldE T m)).getD i 0 ≠ (w.map (oldE T m)).getD j 0 := fun q => by
      have := hpl hi hj (by rw [q])
      omega
    have hm := mt_of_div h hne2
    have h1 := c.closed l i hi
    rw [← hm] at h1
    have h2 := c.closed l j hj
    rw [hm, mt_mt] at h2
    have e1 := hpl hj (su_lt hi) h1
    have e2 := hpl hi (su_lt hj) h2
    have e3 : j = i + 1 := by unfold su at e1; split at e1 <;> omega
    have e4 : i = 0 ∧ j + 1 = w.length := by unfold su at e2; split at e2 <;> omega
    obtain ⟨rfl, hw2⟩ := e4
    subst e3
    -- two ends: w0 at the new place, w1 leads to the old one
    have hx0 : w[0]? = some w[0] := List.getElem?_eq_getElem hi
    have hx1 : w[1]? = some w[1] := List.getElem?_eq_getElem hj
    have f0 := wf _ (List.mem_of_getElem? hx0)
    have f1 := wf _ (List.mem_of_getElem? hx1)
    have g0 : (w.map (oldE T m)).getD 0 0 = oldE T m w[0] := by rw [List.getD_eq_getElem?_getD, List.getElem?_map, hx0]; rfl
    have g1 : (w.map (oldE T m)).getD 1 0 = oldE T m w[1] := by rw [List.getD_eq_getElem?_getD, List.getElem?_map, hx1]; rfl
    rw [g0, show (0 + 1 : Nat) = 1 from rfl, g1] at hm
    have s0 : seat C w[0] = D.length + i0 := path_first c.nd l.way hx0
    have s1 : seat C (mt w[1]) = seat D (T.getD i0 0) := by
      rw [path_last l.way (x := w[1]) (by rw [show w.length - 1 = 1 by omega]; exact hx1), c.stC (c.bAt l.lt)]
    have s2 : seat C (mt w[0]) = seat C w[1] := path_next c.nd l.way 0 _ _ hx0 hx1
    have fm1 := c.valid.mt f1
    -- y, the mate of w1, is the old end of w0
    have ylo : mt w[1] < 2 * (m : Int) := by
      have hat := c.cat fm1
      rw [s1] at hat
      generalize hy : mt w[1] = y at hat
      generalize hp : seat D (T.getD i0 0) = p at hat
      cases hat with
      | off hf _ => exact (c.v.rg _ hf).2
      | left hi h => exact (c.hi hi (c.lrow hi h)).2
      | right hi h => have := c.plt l.lt; omega
      | even hi => have := c.plt l.lt; omega
      | odd hi => have := c.plt l.lt; omega
    have yold : oldE T m (mt w[1]) = oldE T m w[0] := by rw [(c.old_seat f1).2.2, hm, mt_mt]
    rw [old_lo ylo] at yold
    by_cases hlo : w[0] < 2 * (m : Int)
    · rw [old_lo hlo] at yold
      rw [yold, s0] at s1
      have := c.plt l.lt
      omega
    · obtain ⟨i, hi', hc⟩ := c.copy f0 hlo
      -- w1 stands at a new place and is of a tie of the round
      have on1 : (w[1] : Int) / (2 : Int) ∈ T.map (· / 2) := by
        have : (w[1] : Int) / (2 : Int) = oldE T m w[0] / 2 := by rw [← yold, mt_div]
        rw [this]
        rcases hc with hc | hc
        · rw [hc, old_even]; exact on_tie hi'
        · rw [hc, old_odd]; exact on_mt hi'
      have w1lo : w[1] < 2 * (m : Int) := by have := mt_hi ylo; rw [mt_mt] at this; exact this
      obtain ⟨q, hq⟩ : ∃ q, seat C w[1] = D.length + q := by
        rw [← s2]
        rcases hc with hc | hc
        · rw [hc, mt_even, c.stC (c.oddAt hi')]; exact ⟨_, rfl⟩
        · rw [hc, mt_odd, c.stC (.even hi')]; exact ⟨_, rfl⟩
      obtain ⟨i2, hi2, h3 | h3⟩ := c.onoff on1
      · rw [h3, c.stC (c.bAt hi2)] at hq
        have := c.plt hi2
        omega
      · rw [h3, c.stC (c.aAt hi2)] at hq
        have := c.plt (su_lt hi2)
        omega
/-- a round walked the other way -/
theorem turn_back {W : List Int} (h : IsTurn D m W) : IsTurn D m (W.reverse.map mt) := by
  have hlen : (W.reverse.map mt).length = W.length := by rw [List.length_map, List.length_reverse]
  have hget : ∀ {i : Nat}, i < W.length → (W.reverse.map mt).getD i 0 = mt (W.getD (W.length - 1 - i) 0) := fun {i} hi => by
    rw [List.getD_eq_getElem?_getD, List.getElem?_map, List.getElem?_reverse hi, get_some (by omega)]; rfl
  refine ⟨fun q => h.ne (List.reverse_eq_nil_iff.mp (List.map_eq_nil_iff.mp q)), ⟨fun e he => ?_, fun i hi => ?_⟩, ?_, ?_⟩
  · obtain ⟨x, hx, rfl⟩ := List.mem_map.mp he
    have := h.wk.rg x (List.mem_reverse.mp hx)
    exact ⟨mt_lo this.1, mt_hi this.2⟩
  · rw [hlen] at hi
    rw [prv_pr, hlen, hget (pr_lt hi), hget hi, mt_mt, turn_next h (by omega)]
    congr 2
    unfold su pr
    split <;> split <;> omega
  · have e : (W.reverse.map mt).map (seat D) = (W.map fun x => seat D (mt x)).reverse := by rw [List.map_map, ← List.map_reverse]; rfl
    rw [e]
    refine nodup_rev (List.pairwise_iff_getElem.mpr fun i j hi hj hij q => ?_)
    rw [List.length_map] at hi hj
    rw [List.getElem_map, List.getElem_map] at q
    have a1 := get_some hi
    have a2 := get_some hj
    rw [List.getElem?_eq_getElem hi] at a1
    rw [List.getElem?_eq_getElem hj] at a2
    rw [Option.some.inj a1, Option.some.inj a2, turn_next h hi, turn_next h hj] at q
    have := turn_seat h (get_some (su_lt hi)) (get_some (su_lt hj)) q
    have := congrArg (pr W.length) this
    rw [pr_su hi, pr_su hj] at this
    omega
  · have e : (W.reverse.map mt).map (· / 2) = (W.map (· / 2)).reverse := by
      rw [List.map_map, ← List.map_reverse]
      apply List.map_congr_left
      intro x _
      exact mt_div x
    rw [e]
    exact nodup_rev h.ts
end
/-! ### what is asked of turn_over -/
theorem over_parted {D C : Dr} {m : Nat} {T : List Int} (v : Valid D m) (t : IsTurn D m T) (c : IsCut D T m C) : Parted D T ↔ ∀ i, i < T.length → ∀ w, ¬ Path C (D.length + i) w (seat C (T.getD i 0)) := by
  obtain ⟨L, R, c⟩ := cut_mk v t c
  refine ⟨fun h i hi w => c.noway h hi w, fun h => Classical.byContradiction fun hp => ?_⟩
  obtain ⟨i, hi, w, hw⟩ := c.way hp
  exact h i hi w hw
theorem over_right {D C : Dr} {m : Nat} {T : List Int} (v : Valid D m) (t : IsTurn D m T) (c : IsCut D T m C) {i0 : Nat} {w : List Int} (l : Least D C T i0 w) : IsTurn D m (over T m w) ∧ crossing D T (over T m w) = 1 := by
  obtain ⟨L, R, c⟩ := cut_mk v t c
  refine ⟨?_, c.crosses l.lt l.way⟩
  have := turn_back (c.fwd l)
  unfold over
  exact this
theorem over_valid {D C : Dr} {m : Nat} {T : List Int} (v : Valid D m) (t : IsTurn D m T) (c : IsCut D T m C) : Valid C (m + T.length) := by
  obtain ⟨L, R, c⟩ := cut_mk v t c
  exact c.valid
end RF

/-! Mathematics: the lands, walked one by one. -/
namespace RF
theorem sig_mem {D : Dr} {m : Nat} (v : Valid D m) {x : Int} (hx : x ∈ D.flatten) : sig D x ∈ D.flatten := by
  obtain ⟨r, hr, hm⟩ := seat_at hx
  obtain ⟨j, hj⟩ := List.mem_iff_getElem?.mp hm
  exact mem_flat.mpr ⟨_, _, hr, List.mem_of_getElem? (sig_row v.nd hr hj)⟩
theorem sig_inj {D : Dr} {m : Nat} (v : Valid D m) {x y : Int} (hx : x ∈ D.flatten) (hy : y ∈ D.flatten) (h : sig D x = sig D y) : x = y := by
  obtain ⟨r, hr, hm⟩ := seat_at hx
  obtain ⟨s, hs, hm'⟩ := seat_at hy
  obtain ⟨j, hj⟩ := List.mem_iff_getElem?.mp hm
  obtain ⟨k, hk⟩ := List.mem_iff_getElem?.mp hm'
  have a := sig_row v.nd hr hj
  have b := sig_row v.nd hs hk
  have e := row_inj v.nd hr hs (List.mem_of_getElem? a) (h ▸ List.mem_of_getElem? b)
  rw [e, hs] at hr
  have hr := Option.some.inj hr
  subst hr
  rw [h] at a
  have q := nodup_ix (nodup_row v.nd hs) a b
  have hjl := (List.getElem?_eq_some_iff.mp hj).1
  have hkl := (List.getElem?_eq_some_iff.mp hk).1
  have ejk : j = k := by
    by_cases h1 : j + 1 < s.length
    · rw [Nat.mod_eq_of_lt h1] at q
      by_cases h2 : k + 1 < s.length
      · rw [Nat.mod_eq_of_lt h2] at q; omega
      · rw [show k + 1 = s.length by omega, Nat.mod_self] at q; omega
    · rw [show j + 1 = s.length by omega, Nat.mod_self] at q
      by_cases h2 : k + 1 < s.length
      · rw [Nat.mod_eq_of_lt h2] at q; omega
      · omega
  subst ejk
  rw [hj] at hk
  exact Option.some.inj hk
def phi (D : Dr) (e : Int) : Int := sig D (mt e)
theorem phi_mem {D : Dr} {m : Nat} (v : Valid D m) {x : Int} (hx : x ∈ D.flatten) : phi D x ∈ D.flatten := sig_mem v (v.mt hx)
theorem phi_inj {D : Dr} {m : Nat} (v : Valid D m) {x y : Int} (hx : x ∈ D.flatten) (hy : y ∈ D.flatten) (h : phi D x = phi D y) : x = y := by
  have := sig_inj v (v.mt hx) (v.mt hy) h
  rw [← mt_mt x, this, mt_mt]
theorem Orb.trans {D : Dr} {x y z : Int} (a : Orb D x y) (b : Orb D y z) : Orb D x z := by
  induction b with
  | base => exact a
  | step _ ih => exact ih.step
structure LandsTo (D : Dr) (i : Nat) (Ls : Dr) : Prop where
  sub : ∀ e ∈ Ls.flatten, e ∈ D.flatten
  nd : Ls.flatten.Nodup
  cl : ∀ l ∈ Ls, ∀ e ∈ l, phi D e ∈ l
  one : ∀ l ∈ Ls, ∀ e ∈ l, ∀ f ∈ l, Orb D e f
  pre : ∀ e ∈ Ls.flatten, ∃ f ∈ Ls.flatten, phi D f = e
  all : ∀ z : Nat, z < i → (z : Int) ∈ Ls.flatten
  len : Ls.length ≤ i
theorem lands_start {D : Dr} : LandsTo D 0 [] := ⟨(fun e h => nomatch h), List.nodup_nil, (fun l h => nomatch h), (fun l h => nomatch h), (fun e h => nomatch h), fun z h => absurd h (Nat.not_lt_zero z), Nat.le_refl 0⟩
structure LandTo (D : Dr) (S : List Int) (start : Int) (l : List Int) (e : Int) : Prop where
  sub : ∀ x ∈ l, x ∈ D.flatten
  nd : (S ++ l).Nodup
  st : e ∈ D.flatten
  con : Con (phi D) l
  hd : (l = [] ∧ e = start) ∨ ∃ y, l[0]? = some start ∧ l[l.length - 1]? = some y ∧ e = phi D y
theorem land_start {D : Dr} {S : List Int} {start : Int} (h : S.Nodup) (hs : start ∈ D.flatten) : LandTo D S start [] start := ⟨(fun x h => nomatch h), by rw [List.append_nil]; exact h, hs, fun j x y h => by simp at h, .inl ⟨rfl, rfl⟩⟩
theorem land_step {D : Dr} {m : Nat} {S l : List Int} {start e : Int} (v : Valid D m) (h : LandTo D S start l e) (he : e ∉ S ++ l) : LandTo D S start (l ++ [e]) (phi D e) := by
  have hlast : (l ++ [e])[(l ++ [e]).length - 1]? = some e := by
    rw [List.length_append, List.length_singleton, List.getElem?_append_right (by omega)]
    simp
  refine ⟨fun x hx => ?_, ?_, phi_mem v h.st, fun j x y hx hy => ?_, ?_⟩
  · rcases List.mem_append.mp hx with hx | hx
    · exact h.sub x hx
    · rw [List.mem_singleton.mp hx]; exact h.st
  · rw [← List.append_assoc]
    refine List.nodup_append.mpr ⟨h.nd, by simp, fun a ha b hb q => ?_⟩
    rw [List.mem_singleton.mp hb] at q
    exact he (q ▸ ha)
  · have hyl := (List.getElem?_eq_some_iff.mp hy).1
    rw [List.length_append, List.length_singleton] at hyl
    rw [List.getElem?_append_left (by omega)] at hx
    by_cases hj : j + 1 < l.length
    · rw [List.getElem?_append_left hj] at hy
      exact h.con j x y hx hy
    · rw [List.getElem?_append_right (by omega), show j + 1 - l.length = 0 by omega] at hy
      have e1 : e = y := Option.some.inj hy
      subst e1
      rcases h.hd with ⟨h1, _⟩ | ⟨z, _, h2, h3⟩
      · subst h1; cases hx
      · rw [show l.length - 1 = j by omega, hx] at h2
        rw [h3, Option.some.inj h2]
  · refine .inr ⟨e, ?_, hlast, rfl⟩
    rcases h.hd with ⟨h1, h2⟩ | ⟨z, h1, _, _⟩
    · subst h1 h2; rfl
    · rw [List.getElem?_append_left (List.getElem?_eq_some_iff.mp h1).1]; exact h1
theorem orb_along {D : Dr} {l : List Int} (c : Con (phi D) l) : ∀ (k j : Nat) (x y : Int), l[j]? = some x → l[j + k]? = some y → Orb D x y
  | 0, j, x, y, hx, hy => by
    rw [Nat.add_zero, hx] at hy
    rw [Option.some.inj hy]
    exact .base
  | k + 1, j, x, y, hx, hy => by
    have hl := (List.getElem?_eq_some_iff.mp hy).1
    have hz : l[j + k]? = some l[j + k] := List.getElem?_eq_getElem (by omega)
    have h1 := orb_along c k j x _ hx hz
    have h2 := c (j + k) _ _ hz hy
    rw [← h2]
    exact h1.step
/-- a walk round a land comes home -/
theorem land_end {D : Dr} {m i : Nat} {Ls : Dr} {l : List Int} {e : Int} (v : Valid D m) (hi : i < 2 * m) (L : LandsTo D i Ls) (h : LandTo D Ls.flatten (i : Int) l e) (he : e ∈ Ls.flatten ++ l) : (l = [] → LandsTo D (i + 1) Ls) ∧ (l ≠ [] → LandsTo D (i + 1) (Ls ++ [l])) := by
  refine ⟨fun hl => ?_, fun hl => ?_⟩
  · subst hl
    rw [List.append_nil] at he
    refine { L with all := fun z hz => ?_, len := Nat.le_succ_of_le L.len }
    rcases h.hd with ⟨_, h2⟩ | ⟨z, h1, _, _⟩
    · by_cases q : z = i
      · subst q; rw [← h2]; exact he
      · exact L.all z (by omega)
    · cases h1
  · rcases h.hd with ⟨h1, _⟩ | ⟨y, h1, h2, h3⟩
    · exact absurd h1 hl
    have hyl : y ∈ l := List.mem_of_getElem? h2
    have hyf := h.sub y hyl
    have hlen : 0 < l.length := List.length_pos_iff.mpr hl
    obtain ⟨n1, n2, n3⟩ := List.nodup_append.mp h.nd
    have home : e = (i : Int) := by
      rcases List.mem_append.mp he with he | he
      · obtain ⟨f, hf, hp⟩ := L.pre e he
        have := phi_inj v (L.sub f hf) hyf (hp.trans h3)
        subst this
        exact absurd rfl (n3 f hf f hyl)
      · obtain ⟨j, hj⟩ := List.mem_iff_getElem?.mp he
        cases j with
        | zero => rw [h1] at hj; exact (Option.some.inj hj).symm
        | succ j =>
          have hjl := (List.getElem?_eq_some_iff.mp hj).1
          have hz : l[j]? = some l[j] := List.getElem?_eq_getElem (by omega)
          have hc := h.con j _ _ hz hj
          have := phi_inj v (h.sub _ (List.mem_of_getElem? hz)) hyf (hc.trans h3)
          rw [this] at hz
          have := nodup_ix n2 hz h2
          omega
    have hcl : ∀ x ∈ l, phi D x ∈ l := fun x hx => by
      obtain ⟨j, hj⟩ := List.mem_iff_getElem?.mp hx
      have hjl := (List.getElem?_eq_some_iff.mp hj).1
      by_cases q : j + 1 < l.length
      · have hz : l[j + 1]? = some l[j + 1] := List.getElem?_eq_getElem q
        rw [h.con j _ _ hj hz]
        exact List.mem_of_getElem? hz
      · rw [show l.length - 1 = j by omega, hj] at h2
        rw [Option.some.inj h2, ← h3, home]
        exact List.mem_of_getElem? h1
    have hone : ∀ x ∈ l, ∀ f ∈ l, Orb D x f := fun x hx f hf => by
      obtain ⟨j, hj⟩ := List.mem_iff_getElem?.mp hx
      obtain ⟨k, hk⟩ := List.mem_iff_getElem?.mp hf
      have hjl := (List.getElem?_eq_some_iff.mp hj).1
      have a := orb_along h.con (l.length - 1 - j) j x y hj (by rw [show j + (l.length - 1 - j) = l.length - 1 by omega]; exact h2)
      have b : Orb D x (i : Int) := by
        have := a.step
        rw [← home, h3]
        exact this
      exact b.trans (orb_along h.con k 0 _ f h1 (by rw [Nat.zero_add]; exact hk))
    have hpre : ∀ x ∈ l, ∃ f ∈ l, phi D f = x := fun x hx => by
      obtain ⟨j, hj⟩ := List.mem_iff_getElem?.mp hx
      cases j with
      | zero =>
        rw [h1] at hj
        exact ⟨y, hyl, by rw [← h3, home]; exact Option.some.inj hj⟩
      | succ j =>
        have hjl := (List.getElem?_eq_some_iff.mp hj).1
        have hz : l[j]? = some l[j] := List.getElem?_eq_getElem (by omega)
        exact ⟨_, List.mem_of_getElem? hz, h.con j _ _ hz hj⟩
    have hfl : (Ls ++ [l]).flatten = Ls.flatten ++ l := by rw [List.flatten_append]; show _ ++ ([l] : Dr).flatten = _; rw [List.flatten_cons, List.flatten_nil, List.append_nil]
    refine ⟨fun x hx => ?_, by rw [hfl]; exact h.nd, fun r hr => ?_, fun r hr => ?_, fun x hx => ?_, fun z hz => ?_, by rw [List.length_append, List.length_singleton]; have := L.len; omega⟩
    · rw [hfl] at hx
      exact (List.mem_append.mp hx).elim (L.sub x) (h.sub x)
    · rcases List.mem_append.mp hr with hr | hr
      · exact L.cl r hr
      · rw [List.mem_singleton.mp hr]; exact hcl
    · rcases List.mem_append.mp hr with hr | hr
      · exact L.one r hr
      · rw [List.mem_singleton.mp hr]; exact hone
    · rw [hfl] at hx ⊢
      rcases List.mem_append.mp hx with hx | hx
      · obtain ⟨f, hf, hp⟩ := L.pre x hx
        exact ⟨f, List.mem_append_left _ hf, hp⟩
      · obtain ⟨f, hf, hp⟩ := hpre x hx
        exact ⟨f, List.mem_append_right _ hf, hp⟩
    · rw [hfl]
      by_cases q : z = i
      · subst q; exact List.mem_append_right _ (List.mem_of_getElem? h1)
      · exact List.mem_append_left _ (L.all z (by omega))
theorem lands_done {D : Dr} {m n : Nat} {Ls : Dr} (v : Valid D m) (L : LandsTo D (2 * m) Ls) : Lands D (Ls ++ List.replicate n []) := by
  have hfl : (Ls ++ List.replicate n []).flatten = Ls.flatten := by
    rw [List.flatten_append]
    have : (List.replicate n ([] : List Int)).flatten = [] := by
      induction n with
      | zero => rfl
      | succ n ih => rw [List.replicate_succ, List.flatten_cons, ih]; rfl
    rw [this, List.append_nil]
  refine ⟨fun e => ?_, by rw [hfl]; exact L.nd, fun l hl => ?_, fun l hl => ?_⟩
  · rw [hfl]
    refine ⟨L.sub e, fun he => ?_⟩
    have := v.rg e he
    have := L.all e.toNat (by omega)
    rwa [show ((e.toNat : Nat) : Int) = e by omega] at this
  · rcases List.mem_append.mp hl with hl | hl
    · exact L.cl l hl
    · rw [List.eq_of_mem_replicate hl]; exact fun e he => by cases he
  · rcases List.mem_append.mp hl with hl | hl
    · exact L.one l hl
    · rw [List.eq_of_mem_replicate hl]; exact fun e he => by cases he
end RF

/-! Mathematics: rows filled, popped, put in. -/
namespace RF
theorem valid_rng {D : Dr} {m : Nat} (h : D.flatten.Perm (rng (2 * m))) : Valid D m :=
  ⟨h.nodup_iff.mpr (nodup_rng _), fun e he => by have := mem_rng.mp (h.mem_iff.mp he); omega, by rw [h.length_eq, len_rng]⟩
theorem erase_perm {α : Type} : ∀ {l : List α} {i : Nat} {z : α}, l[i]? = some z → (z :: l.eraseIdx i).Perm l
  | [], _, _, h => by cases h
  | x :: l, 0, z, h => by rw [Option.some.inj h]; exact List.Perm.refl _
  | x :: l, i + 1, z, h => (List.Perm.swap x z _).trans (List.Perm.cons x (erase_perm (l := l) (i := i) h))
theorem set_last {D : Dr} (h : D ≠ []) (r : List Int) : D.set (D.length - 1) r = D.dropLast ++ [r] := by
  induction D with
  | nil => exact absurd rfl h
  | cons x D ih =>
    cases D with
    | nil => rfl
    | cons y D =>
      have := ih (by simp)
      show (x :: y :: D).set (D.length + 1) r = x :: ((y :: D).dropLast ++ [r])
      rw [← this]; rfl
theorem dropLast_getD {D : Dr} (h : D ≠ []) : D = D.dropLast ++ [D.getD (D.length - 1) []] := by
  have h1 : 0 < D.length := List.length_pos_iff.mpr h
  have h2 : D.getD (D.length - 1) [] = D.getLast h := by
    rw [List.getD_eq_getElem?_getD, List.getElem?_eq_getElem (by omega), List.getLast_eq_getElem]; rfl
  rw [h2, List.dropLast_concat_getLast]
/-- an end more in the last row -/
theorem flat_last {D : Dr} {z : Int} (h : D ≠ []) : (D.set (D.length - 1) (D.getD (D.length - 1) [] ++ [z])).flatten = D.flatten ++ [z] := by
  rw [set_last h]
  conv => rhs; rw [dropLast_getD h]
  rw [List.flatten_append, List.flatten_append]
  simp
theorem flat_ins (D : Dr) (i : Nat) : (D.take i ++ [([] : List Int)] ++ D.drop i).flatten = D.flatten := by
  rw [List.flatten_append, List.flatten_append]
  conv => rhs; rw [← List.take_append_drop i D, List.flatten_append]
  simp
theorem row_le {D : Dr} {r : List Int} (h : r ∈ D) : r.length ≤ D.flatten.length := by
  obtain ⟨u, v, rfl⟩ := List.append_of_mem h
  rw [List.flatten_append, List.flatten_cons, List.length_append, List.length_append]; omega
theorem flat_set {D : Dr} {j : Nat} (r : List Int) (hj : j < D.length) : (D.set j r).flatten.Perm (r ++ (D.eraseIdx j).flatten) := by
  induction D generalizing j with
  | nil => exact absurd hj (Nat.not_lt_zero _)
  | cons s D ih =>
    cases j with
    | zero => exact List.Perm.refl _
    | succ j =>
      have := ih (j := j) (by simpa using hj)
      show (s ++ (D.set j r).flatten).Perm (r ++ (s ++ (D.eraseIdx j).flatten))
      refine (List.Perm.append_left s this).trans ?_
      rw [← List.append_assoc, ← List.append_assoc]
      exact List.Perm.append_right _ List.perm_append_comm
theorem flat_get {D : Dr} {j : Nat} (hj : j < D.length) : D.flatten.Perm (D.getD j [] ++ (D.eraseIdx j).flatten) := by
  have := flat_set (D.getD j []) hj
  have e : D.set j (D.getD j []) = D := by
    apply List.ext_getElem?
    intro i
    by_cases h : i = j
    · subst h; rw [List.getElem?_set_self hj, List.getD_eq_getElem?_getD, List.getElem?_eq_getElem hj]; rfl
    · rw [List.getElem?_set_ne (fun z => h z.symm)]
  rw [e] at this
  exact this
/-- an end put into a row, a new row for the other one -/
theorem grow {D : Dr} {m j i : Nat} (v : Valid D m) (hj : j < D.length) : Valid (D.set j ((D.getD j []).take i ++ [2 * (m : Int)] ++ (D.getD j []).drop i) ++ [[2 * (m : Int) + 1]]) (m + 1) := by
  have h1 : (D.set j ((D.getD j []).take i ++ [2 * (m : Int)] ++ (D.getD j []).drop i)).flatten.Perm (2 * (m : Int) :: D.flatten) := by
    refine (flat_set _ hj).trans ?_
    have e : ((D.getD j []).take i ++ [2 * (m : Int)] ++ (D.getD j []).drop i).Perm (2 * (m : Int) :: D.getD j []) := by
      rw [List.append_assoc]
      refine List.perm_middle.trans (List.Perm.cons _ ?_)
      show ((D.getD j []).take i ++ (D.getD j []).drop i).Perm (D.getD j [])
      rw [List.take_append_drop]
    refine (List.Perm.append_right _ e).trans ?_
    exact List.Perm.cons _ (flat_get hj).symm
  have h2 : (D.set j ((D.getD j []).take i ++ [2 * (m : Int)] ++ (D.getD j []).drop i) ++ [[2 * (m : Int) + 1]]).flatten.Perm ((2 * (m : Int) + 1) :: 2 * (m : Int) :: D.flatten) := by
    rw [List.flatten_append]
    have : ([[2 * (m : Int) + 1]] : Dr).flatten = [2 * (m : Int) + 1] := rfl
    rw [this]
    exact List.perm_append_comm.trans (List.Perm.cons _ h1)
  refine ⟨h2.nodup_iff.mpr (List.nodup_cons.mpr ⟨fun q => ?_, List.nodup_cons.mpr ⟨fun q => ?_, v.nd⟩⟩), fun e he => ?_, ?_⟩
  · rcases List.mem_cons.mp q with q | q
    · omega
    · have := v.rg _ q; omega
  · have := v.rg _ q; omega
  · rcases List.mem_cons.mp (h2.mem_iff.mp he) with q | q
    · omega
    · rcases List.mem_cons.mp q with q | q
      · omega
      · have := v.rg _ q; omega
  · rw [h2.length_eq, List.length_cons, List.length_cons, v.ln]; omega
end RF

/-! Mathematics: a tie put in; where both its ends stood in one land, they are in two now. -/
namespace RF
theorem insB_in {x n : Int} {r : List Int} (h : x ∈ r) : ∃ u w, r = u ++ x :: w ∧ x ∉ u ∧ insB x n r = u ++ n :: x :: w := by
  have hl := List.idxOf_lt_length_of_mem h
  have hg : r[r.idxOf x] = x := List.getElem_idxOf hl
  have hd : r.drop (r.idxOf x) = x :: r.drop (r.idxOf x + 1) := by rw [List.drop_eq_getElem_cons hl, hg]
  refine ⟨r.take (r.idxOf x), r.drop (r.idxOf x + 1), ?_, fun q => ?_, ?_⟩
  · rw [← hd, List.take_append_drop]
  · obtain ⟨j, hj⟩ := List.mem_iff_getElem?.mp q
    rw [List.getElem?_take] at hj
    by_cases h1 : j < r.idxOf x
    · rw [if_pos h1] at hj
      obtain ⟨g1, g2⟩ := List.getElem?_eq_some_iff.mp hj
      have := List.not_of_lt_findIdx (p := (· == x)) (xs := r) (i := j) (by
        show j < r.findIdx (· == x)
        exact h1)
      simp at this
      exact this g2
    · rw [if_neg h1] at hj; cases hj
  · unfold insB
    rw [if_pos h, hd]
    simp
theorem insB_out {x n : Int} {r : List Int} (h : x ∉ r) : insB x n r = r := if_neg h
section
variable {D : Dr} {x n : Int}
theorem map_out {u : Dr} (h : ∀ s ∈ u, x ∉ s) : u.map (insB x n) = u := by
  induction u with
  | nil => rfl
  | cons s u ih =>
    rw [List.map_cons, insB_out (h s List.mem_cons_self), ih (fun t ht => h t (List.mem_cons_of_mem _ ht))]
/-- the one row that has it -/
theorem ins_split (h : D.flatten.Nodup) (hx : x ∈ D.flatten) : ∃ u r v, D = u ++ r :: v ∧ x ∈ r ∧ D.map (insB x n) = u ++ insB x n r :: v := by
  obtain ⟨r, hr, hxr⟩ := List.mem_flatten.mp hx
  obtain ⟨u, v, hD⟩ := List.append_of_mem hr
  refine ⟨u, r, v, hD, hxr, ?_⟩
  rw [hD, List.flatten_append, List.flatten_cons] at h
  obtain ⟨h1, h2, h3⟩ := List.nodup_append.mp h
  obtain ⟨h4, h5, h6⟩ := List.nodup_append.mp h2
  rw [hD, List.map_append, List.map_cons, map_out fun s hs q => ?_, map_out fun s hs q => ?_]
  · exact h6 x hxr x (List.mem_flatten.mpr ⟨s, hs, q⟩) rfl
  · exact h3 x (List.mem_flatten.mpr ⟨s, hs, q⟩) x (List.mem_append_left _ hxr) rfl
theorem ins_perm (h : D.flatten.Nodup) (hx : x ∈ D.flatten) : (D.map (insB x n)).flatten.Perm (n :: D.flatten) := by
  obtain ⟨u, r, v, hD, hxr, hm⟩ := ins_split (n := n) h hx
  obtain ⟨a, b, hr, _, hi⟩ := insB_in (n := n) hxr
  rw [hm, hi, hD, hr]
  simp only [List.flatten_append, List.flatten_cons, List.append_assoc, List.cons_append]
  have := List.perm_middle (l₁ := u.flatten ++ a) (l₂ := x :: (b ++ v.flatten)) (a := n)
  simp only [List.append_assoc] at this
  exact this
theorem ins_valid {m : Nat} {y : Int} (v : Valid D m) (hx : x ∈ D.flatten) (hy : y ∈ D.flatten) : Valid (tie D (2 * m) x y) (m + 1) := by
  have p1 := ins_perm (n := 2 * (m : Int)) v.nd hx
  have hn : (2 * (m : Int)) ∉ D.flatten := fun q => by have := v.rg _ q; omega
  have nd1 : (D.map (insB x (2 * (m : Int)))).flatten.Nodup := p1.nodup_iff.mpr (List.nodup_cons.mpr ⟨hn, v.nd⟩)
  have hy1 : y ∈ (D.map (insB x (2 * (m : Int)))).flatten := p1.mem_iff.mpr (List.mem_cons_of_mem _ hy)
  have p2 := ins_perm (n := 2 * (m : Int) + 1) nd1 hy1
  have p3 := p2.trans (List.Perm.cons _ p1)
  refine ⟨p3.nodup_iff.mpr (List.nodup_cons.mpr ⟨fun q => ?_, List.nodup_cons.mpr ⟨hn, v.nd⟩⟩), fun e he => ?_, ?_⟩
  · rcases List.mem_cons.mp q with q | q
    · omega
    · have := v.rg _ q; omega
  · rcases List.mem_cons.mp (p3.mem_iff.mp he) with q | q
    · omega
    · rcases List.mem_cons.mp q with q | q
      · omega
      · have := v.rg _ q; omega
  · have h1 : (tie D (2 * m) x y).flatten.length = _ := p3.length_eq
    rw [h1, List.length_cons, List.length_cons, v.ln]; omega
/-- what is behind, now -/
theorem sig_ins (h : D.flatten.Nodup) (hx : x ∈ D.flatten) (hn : n ∉ D.flatten) :
    sig (D.map (insB x n)) n = x ∧ ∀ e ∈ D.flatten, (sig D e = x → sig (D.map (insB x n)) e = n) ∧ (sig D e ≠ x → sig (D.map (insB x n)) e = sig D e) := by
  have nd1 : (D.map (insB x n)).flatten.Nodup := (ins_perm h hx).nodup_iff.mpr (List.nodup_cons.mpr ⟨hn, h⟩)
  obtain ⟨p, r, hp, hxr⟩ := mem_flat.mp hx
  obtain ⟨a, b, hr, ha, hi⟩ := insB_in (n := n) hxr
  have hp1 : (D.map (insB x n))[p]? = some (insB x n r) := by rw [List.getElem?_map, hp]; rfl
  have c := con_rot (a := x) (x := b ++ a) h hp ⟨a, x :: b, hr, rfl⟩
  have c1 := con_rot (a := n) (x := x :: (b ++ a)) nd1 hp1 ⟨a, n :: x :: b, hi, rfl⟩
  refine ⟨c1.head, fun e he => ?_⟩
  obtain ⟨q, s, hq, hes⟩ := mem_flat.mp he
  by_cases hpq : q = p
  · subst hpq
    rw [hp] at hq
    have hq := Option.some.inj hq
    subst hq
    have hrn := nodup_row h hp
    have hm : e ∈ x :: (b ++ a) := by
      rw [hr] at hes
      rcases List.mem_append.mp hes with q | q
      · exact List.mem_cons_of_mem _ (List.mem_append_right _ q)
      · rcases List.mem_cons.mp q with q | q
        · rw [q]; exact List.mem_cons_self
        · exact List.mem_cons_of_mem _ (List.mem_append_left _ q)
    have hn2 : (x :: (b ++ a)).Nodup := by
      have : (x :: (b ++ a)).Perm r := by rw [hr]; exact (List.Perm.cons x List.perm_append_comm).trans List.perm_middle.symm
      exact this.nodup_iff.mpr hrn
    obtain ⟨j, hj⟩ := List.mem_iff_getElem?.mp hm
    have hjl := (List.getElem?_eq_some_iff.mp hj).1
    have e1 : x :: (b ++ a ++ [x]) = (x :: (b ++ a)) ++ [x] := rfl
    have e2 : n :: (x :: (b ++ a) ++ [n]) = n :: ((x :: (b ++ a)) ++ [n]) := rfl
    rw [e1] at c
    by_cases hl : j + 1 < (x :: (b ++ a)).length
    · obtain ⟨f, hf⟩ : ∃ f, (x :: (b ++ a))[j + 1]? = some f := ⟨_, List.getElem?_eq_getElem hl⟩
      have s1 : sig D e = f := c j e f (by rw [List.getElem?_append_left hjl]; exact hj) (by rw [List.getElem?_append_left hl]; exact hf)
      have s2 : sig (D.map (insB x n)) e = f := c1 (j + 1) e f (by
        show ((x :: (b ++ a)) ++ [n])[j]? = some e
        rw [List.getElem?_append_left hjl]; exact hj) (by
        show ((x :: (b ++ a)) ++ [n])[j + 1]? = some f
        rw [List.getElem?_append_left hl]; exact hf)
      have hfx : f ≠ x := fun q => by
        rw [q] at hf
        have := nodup_ix hn2 (i := 0) rfl hf
        omega
      rw [s1, s2]
      exact ⟨fun q => absurd q hfx, fun _ => rfl⟩
    · have s1 : sig D e = x := c j e x (by rw [List.getElem?_append_left hjl]; exact hj) (by rw [List.getElem?_append_right (by omega), show j + 1 - (x :: (b ++ a)).length = 0 by omega]; rfl)
      have s2 : sig (D.map (insB x n)) e = n := c1 (j + 1) e n (by
        show ((x :: (b ++ a)) ++ [n])[j]? = some e
        rw [List.getElem?_append_left hjl]; exact hj) (by
        show ((x :: (b ++ a)) ++ [n])[j + 1]? = some n
        rw [List.getElem?_append_right (by omega), show j + 1 - (x :: (b ++ a)).length = 0 by omega]; rfl)
      rw [s1, s2]
      exact ⟨fun _ => rfl, fun q => absurd rfl q⟩
  · have hxs : x ∉ s := fun z => hpq (row_inj h hq hp z hxr)
    have hq1 : (D.map (insB x n))[q]? = some s := by rw [List.getElem?_map, hq]; exact congrArg some (insB_out hxs)
    obtain ⟨j, hj⟩ := List.mem_iff_getElem?.mp hes
    have a1 := sig_row h hq hj
    have a2 := sig_row nd1 hq1 hj
    rw [a1] at a2
    have e := Option.some.inj a2
    rw [← e]
    exact ⟨fun z => absurd (z ▸ List.mem_of_getElem? a1) hxs, fun _ => rfl⟩
end
def pw (D : Dr) : Nat → Int → Int
  | 0, x => x
  | i + 1, x => phi D (pw D i x)
theorem pw_add (D : Dr) (x : Int) (i : Nat) : ∀ k, pw D (i + k) x = pw D k (pw D i x)
  | 0 => rfl
  | k + 1 => by show phi D (pw D (i + k) x) = phi D (pw D k (pw D i x)); rw [pw_add D x i k]
theorem orb_pw {D : Dr} {x y : Int} (h : Orb D x y) : ∃ j, pw D j x = y := by
  induction h with
  | base => exact ⟨0, rfl⟩
  | step _ ih =>
    obtain ⟨j, hj⟩ := ih
    exact ⟨j + 1, by show phi D (pw D j x) = _; rw [hj]; rfl⟩
theorem least {P : Nat → Prop} : ∀ n, P n → ∃ k, P k ∧ ∀ i, i < k → ¬ P i := by
  intro n
  induction n using Nat.strongRecOn with
  | ind n ih =>
    intro h
    by_cases q : ∃ i, i < n ∧ P i
    · obtain ⟨i, hi, hp⟩ := q
      exact ih i hi hp
    · exact ⟨n, h, fun i hi hp => q ⟨i, hi, hp⟩⟩
theorem pw_mem {D : Dr} {m : Nat} (v : Valid D m) {x : Int} (hx : x ∈ D.flatten) : ∀ i, pw D i x ∈ D.flatten
  | 0 => hx
  | i + 1 => phi_mem v (pw_mem v hx i)
theorem tie_apart {D : Dr} {m : Nat} {x y : Int} (v : Valid D m) (hx : x ∈ D.flatten) (hy : y ∈ D.flatten) (h : Orb D x y) : ¬ Orb (tie D (2 * m) x y) (2 * m + 1) (2 * m) := by
  have p1 := ins_perm (n := 2 * (m : Int)) v.nd hx
  have hn : (2 * (m : Int)) ∉ D.flatten := fun q => by have := v.rg _ q; omega
  have nd1 : (D.map (insB x (2 * (m : Int)))).flatten.Nodup := p1.nodup_iff.mpr (List.nodup_cons.mpr ⟨hn, v.nd⟩)
  have hy1 : y ∈ (D.map (insB x (2 * (m : Int)))).flatten := p1.mem_iff.mpr (List.mem_cons_of_mem _ hy)
  have hn1 : (2 * (m : Int) + 1) ∉ (D.map (insB x (2 * (m : Int)))).flatten := fun q => by
    rcases List.mem_cons.mp (p1.mem_iff.mp q) with q | q
    · omega
    · have := v.rg _ q; omega
  obtain ⟨s1, s2⟩ := sig_ins v.nd hx hn
  obtain ⟨t1, t2⟩ := sig_ins nd1 hy1 hn1
  have mem1 : ∀ {e : Int}, e ∈ D.flatten → e ∈ (D.map (insB x (2 * (m : Int)))).flatten := fun {e} he => p1.mem_iff.mpr (List.mem_cons_of_mem _ he)
  have n1 : (2 * (m : Int)) ∈ (D.map (insB x (2 * (m : Int)))).flatten := p1.mem_iff.mpr List.mem_cons_self
  have xhi := v.rg x hx
  have yhi := v.rg y hy
  have mt1 : mt (2 * (m : Int) + 1) = 2 * (m : Int) := by unfold mt; omega
  -- the step behind the second new end
  have f1 : x ≠ y → phi (tie D (2 * m) x y) (2 * m + 1) = x := fun hxy => by
    show sig (tie D (2 * m) x y) (mt (2 * (m : Int) + 1)) = x
    rw [mt1]
    have := (t2 _ n1).2 (by rw [s1]; exact hxy)
    rw [s1] at this
    exact this
  have f0 : x = y → phi (tie D (2 * m) x y) (2 * m + 1) = 2 * m + 1 := fun hxy => by
    show sig (tie D (2 * m) x y) (mt (2 * (m : Int) + 1)) = _
    rw [mt1]
    exact (t2 _ n1).1 (by rw [s1]; exact hxy)
  have f2 : ∀ e ∈ D.flatten, phi D e ≠ x → phi (tie D (2 * m) x y) e = if phi D e = y then 2 * (m : Int) + 1 else phi D e := fun e he hne => by
    have hm := v.mt he
    have a1 : sig (D.map (insB x (2 * (m : Int)))) (mt e) = phi D e := (s2 _ hm).2 hne
    show sig (tie D (2 * m) x y) (mt e) = _
    by_cases q : phi D e = y
    · rw [if_pos q]
      exact (t2 _ (mem1 hm)).1 (by rw [a1, q])
    · rw [if_neg q, ← a1]
      exact (t2 _ (mem1 hm)).2 (by rw [a1]; exact q)
  by_cases hxy : x = y
  · intro o
    have key : ∀ z, Orb (tie D (2 * m) x y) (2 * m + 1) z → z = 2 * (m : Int) + 1 := fun z hz => by
      induction hz with
      | base => rfl
      | step _ ih => rw [ih]; exact f0 hxy
    have := key _ o
    omega
  · obtain ⟨j0, hj0⟩ := orb_pw h
    obtain ⟨j, hj, hmin⟩ := least (P := fun j => pw D j x = y) j0 hj0
    have hj1 : 0 < j := by
      cases j with
      | zero => exact absurd hj hxy
      | succ j => omega
    have key : ∀ z, Orb (tie D (2 * m) x y) (2 * m + 1) z → z = 2 * (m : Int) + 1 ∨ ∃ i, i < j ∧ z = pw D i x := fun z hz => by
      induction hz with
      | base => exact .inl rfl
      | step _ ih =>
        rename_i e _
        show phi (tie D (2 * m) x y) e = _ ∨ ∃ i, i < j ∧ phi (tie D (2 * m) x y) e = _
        rcases ih with ih | ⟨i, hi, ih⟩
        · rw [ih]
          exact .inr ⟨0, hj1, f1 hxy⟩
        · have hef := pw_mem v hx i
          rw [← ih] at hef
          have e1 : phi D e = pw D (i + 1) x := by rw [ih]; rfl
          have hne : phi D e ≠ x := fun q => by
            have e2 : pw D (i + 1) x = x := by rw [← e1, q]
            have e3 : pw D j x = pw D (j - (i + 1)) x := by
              have := pw_add D x (i + 1) (j - (i + 1))
              rw [show i + 1 + (j - (i + 1)) = j by omega, e2] at this
              exact this
            exact hmin (j - (i + 1)) (by omega) (by rw [← e3]; exact hj)
          rw [f2 e hef hne]
          by_cases q : phi D e = y
          · rw [if_pos q]; exact .inl rfl
          · rw [if_neg q]
            refine .inr ⟨i + 1, ?_, e1⟩
            by_cases q2 : i + 1 = j
            · rw [e1, q2] at q; exact absurd hj q
            · omega
    intro o
    rcases key _ o with q | ⟨i, _, q⟩
    · omega
    · have := v.rg _ (pw_mem v hx i)
      omega
/-- unlike lands and one land -/
theorem land_one {D Ls : Dr} (L : Lands D Ls) {e f : Int} (he : e ∈ D.flatten) (hf : f ∈ D.flatten) (h : seat Ls e = seat Ls f) : Orb D e f := by
  obtain ⟨r, hr, her⟩ := seat_at ((L.mem e).mpr he)
  obtain ⟨s, hs, hfs⟩ := seat_at ((L.mem f).mpr hf)
  rw [h, hs] at hr
  have := Option.some.inj hr
  subst this
  exact L.one _ (List.mem_of_getElem? hs) e her f hfs
end RF

/-! Mathematics: ends and places named anew. -/
namespace RF
def nm (P B : List Int) (z : Int) : Int := if z % 2 = 0 then 2 * P.getD (z / 2).toNat 0 + B.getD (z / 2).toNat 0 else 2 * P.getD (z / 2).toNat 0 + 1 - B.getD (z / 2).toNat 0
theorem nm_app {P B : List Int} {q z : Int} (h0 : 0 ≤ z) (h : z < 2 * (P.length : Int)) : nm (P ++ [q]) B z = nm P B z := by
  unfold nm
  have : (P ++ [q]).getD (z / 2).toNat 0 = P.getD (z / 2).toNat 0 := by
    rw [List.getD_eq_getElem?_getD, List.getElem?_append_left (by omega), ← List.getD_eq_getElem?_getD]
  rw [this]
theorem named {D : Dr} {m : Nat} {P B : List Int} (v : Valid D m) (hP : P.Perm (rng m)) (hB : ∀ i, i < m → 0 ≤ B.getD i 0 ∧ B.getD i 0 < 2) : Valid (D.map (List.map (nm P B))) m := by
  have hfl : (D.map (List.map (nm P B))).flatten = D.flatten.map (nm P B) := by rw [List.map_flatten]
  have hPl : P.length = m := by rw [hP.length_eq, len_rng]
  have hPn : P.Nodup := hP.nodup_iff.mpr (nodup_rng m)
  have hPr : ∀ i, i < m → 0 ≤ P.getD i 0 ∧ P.getD i 0 < m := fun i hi => mem_rng.mp (hP.mem_iff.mp (get_in (by omega)))
  have key : ∀ z, z ∈ D.flatten → nm P B z / 2 = P.getD (z / 2).toNat 0 ∧ (nm P B z % 2 = if z % 2 = 0 then B.getD (z / 2).toNat 0 else 1 - B.getD (z / 2).toNat 0) := fun z hz => by
    have hr := v.rg z hz
    have hb := hB (z / 2).toNat (by omega)
    unfold nm
    generalize P.getD (z / 2).toNat 0 = p
    generalize hbb : B.getD (z / 2).toNat 0 = b at hb
    by_cases e : z % 2 = 0
    · rw [if_pos e, if_pos e]; omega
    · rw [if_neg e, if_neg e]; omega
  refine ⟨?_, fun e he => ?_, ?_⟩
  · rw [hfl]
    refine List.pairwise_map.mpr (List.Pairwise.imp_of_mem ?_ v.nd)
    intro z w hz hw hne heq
    have kz := key z hz
    have kw := key w hw
    have rz := v.rg z hz
    have rw_ := v.rg w hw
    rw [heq] at kz
    have h1 : P.getD (z / 2).toNat 0 = P.getD (w / 2).toNat 0 := kz.1.symm.trans kw.1
    have h2 := nodup_ix hPn (get_some (T := P) (i := (z / 2).toNat) (by omega)) (by rw [h1]; exact get_some (by omega))
    have hb := hB (z / 2).toNat (by omega)
    have h3 := kz.2.symm.trans kw.2
    rw [← h2] at h3
    generalize B.getD (z / 2).toNat 0 = b at h3 hb
    by_cases ez : z % 2 = 0 <;> by_cases ew : w % 2 = 0
    · omega
    · rw [if_pos ez, if_neg ew] at h3; omega
    · rw [if_neg ez, if_pos ew] at h3; omega
    · omega
  · rw [hfl] at he
    obtain ⟨z, hz, rfl⟩ := List.mem_map.mp he
    have kz := key z hz
    have rz := v.rg z hz
    have hp := hPr (z / 2).toNat (by omega)
    rw [← kz.1] at hp
    omega
  · rw [hfl, List.length_map, v.ln]
end RF

/-! Mathematics: drawings of fours and threes; two rounds crossed. -/
namespace RF
def md (a : Int) (c : Nat) : Nat := (a % (c : Int)).toNat
theorem md_is {a : Int} {c : Nat} (h : 0 < c) : ((md a c : Nat) : Int) = a % (c : Int) := by
  unfold md
  exact Int.toNat_of_nonneg (Int.emod_nonneg a (by omega))
theorem md_lt {a : Int} {c : Nat} (h : 0 < c) : md a c < c := by
  have := md_is (a := a) h
  have h2 := Int.emod_lt_of_pos a (show (0 : Int) < c by omega)
  omega
theorem md_inj {a : Int} {c j k : Nat} (h : 0 < c) (hj : j < c) (hk : k < c) (e : md ((j : Int) - a) c = md ((k : Int) - a) c) : j = k := by
  have e1 : ((j : Int) - a) % (c : Int) = ((k : Int) - a) % (c : Int) := by rw [← md_is h, ← md_is h, e]
  have d1 := Int.mul_ediv_add_emod ((j : Int) - a) c
  have d2 := Int.mul_ediv_add_emod ((k : Int) - a) c
  rw [e1] at d1
  have d3 : (c : Int) * (((j : Int) - a) / c - ((k : Int) - a) / c) = (j : Int) - k := by rw [Int.mul_sub]; omega
  generalize ((j : Int) - a) / c - ((k : Int) - a) / c = q at d3
  have hc : (0 : Int) ≤ c := by omega
  rcases Int.lt_trichotomy q 0 with h1 | h1 | h1
  · have := Int.mul_le_mul_of_nonneg_left (show q ≤ -1 by omega) hc
    omega
  · rw [h1, Int.mul_zero] at d3; omega
  · have := Int.mul_le_mul_of_nonneg_left (show 1 ≤ q by omega) hc
    omega
theorem dec {c i j i' j' : Nat} (hj : j < c) (hj' : j' < c) (e : i * c + j = i' * c + j') : i = i' ∧ j = j' := by
  have h0 : 0 < c := by omega
  have a : (i * c + j) / c = i := by rw [Nat.add_comm, Nat.add_mul_div_right _ _ h0, Nat.div_eq_of_lt hj, Nat.zero_add]
  have b : (i' * c + j') / c = i' := by rw [Nat.add_comm, Nat.add_mul_div_right _ _ h0, Nat.div_eq_of_lt hj', Nat.zero_add]
  rw [e, b] at a
  refine ⟨a.symm, ?_⟩
  rw [a] at e
  omega
theorem dec_lt {r c i j : Nat} (hi : i < r) (hj : j < c) : i * c + j < r * c := by
  have := Nat.mul_le_mul_right c (show i + 1 ≤ r by omega)
  rw [Nat.add_mul, Nat.one_mul] at this
  omega
def Lk (c i j : Nat) : Nat := i * c + md ((j : Int) - 1) c
def Bk (r c s i j : Nat) : Nat := if i = 0 then (r - 1) * c + md ((j : Int) - (s : Int)) c else (i - 1) * c + j
def Sk (r c s i j : Nat) : Nat := if i = 0 then (r - 1) * c + md ((j : Int) - 1 - (s : Int)) c else (i - 1) * c + md ((j : Int) - 1) c
section
variable {r c s i j i' j' : Nat}
theorem Lk_lt (hi : i < r) (hj : j < c) : Lk c i j < r * c := dec_lt hi (md_lt (by omega))
theorem Bk_lt (hi : i < r) (hj : j < c) : Bk r c s i j < r * c := by
  unfold Bk
  split
  · exact dec_lt (by omega) (md_lt (by omega))
  · exact dec_lt (by omega) hj
theorem Sk_lt (hi : i < r) (hj : j < c) : Sk r c s i j < r * c := by
  unfold Sk
  split
  · exact dec_lt (by omega) (md_lt (by omega))
  · exact dec_lt (by omega) (md_lt (by omega))
theorem Lk_inj (hj : j < c) (hj' : j' < c) (e : Lk c i j = Lk c i' j') : i = i' ∧ j = j' := by
  have h0 : 0 < c := by omega
  obtain ⟨a, b⟩ := dec (md_lt h0) (md_lt h0) e
  exact ⟨a, md_inj h0 hj hj' b⟩
theorem Bk_inj (hi : i < r) (hi' : i' < r) (hj : j < c) (hj' : j' < c) (e : Bk r c s i j = Bk r c s i' j') : i = i' ∧ j = j' := by
  have h0 : 0 < c := by omega
  unfold Bk at e
  by_cases h1 : i = 0 <;> by_cases h2 : i' = 0
  · rw [if_pos h1, if_pos h2] at e
    obtain ⟨_, b⟩ := dec (md_lt h0) (md_lt h0) e
    exact ⟨by omega, md_inj h0 hj hj' b⟩
  · rw [if_pos h1, if_neg h2] at e
    obtain ⟨a, _⟩ := dec (md_lt h0) hj' e
    omega
  · rw [if_neg h1, if_pos h2] at e
    obtain ⟨a, _⟩ := dec hj (md_lt h0) e
    omega
  · rw [if_neg h1, if_neg h2] at e
    obtain ⟨a, b⟩ := dec hj hj' e
    omega
theorem Sk_inj (hi : i < r) (hi' : i' < r) (hj : j < c) (hj' : j' < c) (e : Sk r c s i j = Sk r c s i' j') : i = i' ∧ j = j' := by
  have h0 : 0 < c := by omega
  unfold Sk at e
  by_cases h1 : i = 0 <;> by_cases h2 : i' = 0
  · rw [if_pos h1, if_pos h2] at e
    obtain ⟨_, b⟩ := dec (md_lt h0) (md_lt h0) e
    rw [Int.sub_sub, Int.sub_sub] at b
    exact ⟨by omega, md_inj h0 hj hj' b⟩
  · rw [if_pos h1, if_neg h2] at e
    obtain ⟨a, _⟩ := dec (md_lt h0) (md_lt h0) e
    omega
  · rw [if_neg h1, if_pos h2] at e
    obtain ⟨a, _⟩ := dec (md_lt h0) (md_lt h0) e
    omega
  · rw [if_neg h1, if_neg h2] at e
    obtain ⟨a, b⟩ := dec (md_lt h0) (md_lt h0) e
    exact ⟨by omega, md_inj h0 hj hj' b⟩
end
/-- rows made by number, each of so many ends -/
theorem made_valid {n k m : Nat} {F : Nat → List Int} (hl : ∀ p, p < n → (F p).length = k) (hn : ∀ p, p < n → (F p).Nodup) (hi : ∀ p q e, p < n → q < n → e ∈ F p → e ∈ F q → p = q)
    (hr : ∀ p, p < n → ∀ e ∈ F p, 0 ≤ e ∧ e < 2 * (m : Int)) (hk : k * n = 2 * m) : Valid ((List.range n).map F) m := by
  refine ⟨List.pairwise_flatten.mpr ⟨fun l hl' => ?_, ?_⟩, fun e he => ?_, ?_⟩
  · obtain ⟨p, hp, rfl⟩ := List.mem_map.mp hl'
    exact hn p (List.mem_range.mp hp)
  · refine List.pairwise_iff_getElem.mpr fun i j h1 h2 hij x hx y hy e => ?_
    rw [List.length_map, List.length_range] at h1 h2
    rw [List.getElem_map, List.getElem_range] at hx hy
    subst e
    have := hi i j x h1 h2 hx hy
    omega
  · obtain ⟨l, hl', hel⟩ := List.mem_flatten.mp he
    obtain ⟨p, hp, rfl⟩ := List.mem_map.mp hl'
    exact hr p (List.mem_range.mp hp) e hel
  · rw [← hk, List.length_flatten, List.map_map]
    have key : ∀ n', n' ≤ n → ((List.range n').map (List.length ∘ F)).sum = k * n' := fun n' hn' => by
      induction n' with
      | zero => rfl
      | succ n' ih =>
        rw [List.range_succ, List.map_append, List.sum_append, ih (by omega)]
        show _ + ((F n').length + 0) = _
        rw [hl n' (by omega), Nat.mul_add]; omega
    exact key n (Nat.le_refl n)
def row4 (r c s i j : Nat) : List Int := [4 * ((i * c + j : Nat) : Int) + 2, 4 * ((i * c + j : Nat) : Int), 4 * ((Bk r c s i j : Nat) : Int) + 3, 4 * ((Lk c i j : Nat) : Int) + 1]
def row6 (r c s i j : Nat) : List Int := [6 * ((i * c + j : Nat) : Int) + 2, 6 * ((i * c + j : Nat) : Int) + 4, 6 * ((i * c + j : Nat) : Int), 6 * ((Bk r c s i j : Nat) : Int) + 3, 6 * ((Sk r c s i j : Nat) : Int) + 5, 6 * ((Lk c i j : Nat) : Int) + 1]
theorem pq {c p q : Nat} (h1 : p / c = q / c) (h2 : p % c = q % c) : p = q := by
  rw [← Nat.div_add_mod p c, ← Nat.div_add_mod q c, h1, h2]
section
variable {r c s : Nat}
theorem place (hc : 0 < c) {p : Nat} (hp : p < r * c) : p / c < r ∧ p % c < c ∧ p / c * c + p % c = p :=
  ⟨Nat.div_lt_of_lt_mul (by rw [Nat.mul_comm]; exact hp), Nat.mod_lt _ hc, by rw [Nat.mul_comm]; exact Nat.div_add_mod p c⟩
theorem valid4 (hc : 0 < c) : Valid ((List.range (r * c)).map fun p => row4 r c s (p / c) (p % c)) (2 * (r * c)) := by
  refine made_valid (k := 4) (fun p _ => rfl) (fun p hp => ?_) (fun p q e hp hq he he' => ?_) (fun p hp e he => ?_) (by omega)
  · unfold row4
    simp only [List.nodup_cons, List.mem_cons, List.not_mem_nil, or_false, not_or, List.nodup_nil, and_true, not_false_eq_true]
    omega
  · obtain ⟨p1, p2, p3⟩ := place hc hp
    obtain ⟨q1, q2, q3⟩ := place hc hq
    unfold row4 at he he'
    simp only [List.mem_cons, List.not_mem_nil, or_false] at he he'
    rw [p3] at he
    rw [q3] at he'
    have hB : Bk r c s (p / c) (p % c) = Bk r c s (q / c) (q % c) → p = q := fun z => by
      obtain ⟨a, b⟩ := Bk_inj p1 q1 p2 q2 z
      exact pq a b
    have hL : Lk c (p / c) (p % c) = Lk c (q / c) (q % c) → p = q := fun z => by
      obtain ⟨a, b⟩ := Lk_inj p2 q2 z
      exact pq a b
    generalize Bk r c s (p / c) (p % c) = b1 at *
    generalize Bk r c s (q / c) (q % c) = b2 at *
    generalize Lk c (p / c) (p % c) = l1 at *
    generalize Lk c (q / c) (q % c) = l2 at *
    rcases he with h | h | h | h <;> rcases he' with h' | h' | h' | h' <;> first | omega | exact hB (by omega) | exact hL (by omega)
  · obtain ⟨p1, p2, p3⟩ := place hc hp
    have hB := Bk_lt (s := s) p1 p2
    have hL := Lk_lt p1 p2
    unfold row4 at he
    simp only [List.mem_cons, List.not_mem_nil, or_false] at he
    rw [p3] at he
    generalize Bk r c s (p / c) (p % c) = b1 at *
    generalize Lk c (p / c) (p % c) = l1 at *
    generalize r * c = n at *
    omega
theorem valid6 (hc : 0 < c) : Valid ((List.range (r * c)).map fun p => row6 r c s (p / c) (p % c)) (3 * (r * c)) := by
  refine made_valid (k := 6) (fun p _ => rfl) (fun p hp => ?_) (fun p q e hp hq he he' => ?_) (fun p hp e he => ?_) (by omega)
  · unfold row6
    simp only [List.nodup_cons, List.mem_cons, List.not_mem_nil, or_false, not_or, List.nodup_nil, and_true, not_false_eq_true]
    omega
  · obtain ⟨p1, p2, p3⟩ := place hc hp
    obtain ⟨q1, q2, q3⟩ := place hc hq
    unfold row6 at he he'
    simp only [List.mem_cons, List.not_mem_nil, or_false] at he he'
    rw [p3] at he
    rw [q3] at he'
    have hB : Bk r c s (p / c) (p % c) = Bk r c s (q / c) (q % c) → p = q := fun z => by
      obtain ⟨a, b⟩ := Bk_inj p1 q1 p2 q2 z
      exact pq a b
    have hS : Sk r c s (p / c) (p % c) = Sk r c s (q / c) (q % c) → p = q := fun z => by
      obtain ⟨a, b⟩ := Sk_inj p1 q1 p2 q2 z
      exact pq a b
    have hL : Lk c (p / c) (p % c) = Lk c (q / c) (q % c) → p = q := fun z => by
      obtain ⟨a, b⟩ := Lk_inj p2 q2 z
      exact pq a b
    generalize Bk r c s (p / c) (p % c) = b1 at *
    generalize Bk r c s (q / c) (q % c) = b2 at *
    generalize Sk r c s (p / c) (p % c) = s1 at *
    generalize Sk r c s (q / c) (q % c) = s2 at *
    generalize Lk c (p / c) (p % c) = l1 at *
    generalize Lk c (q / c) (q % c) = l2 at *
    rcases he with h | h | h | h | h | h <;> rcases he' with h' | h' | h' | h' | h' | h' <;> first | omega | exact hB (by omega) | exact hS (by omega) | exact hL (by omega)
  · obtain ⟨p1, p2, p3⟩ := place hc hp
    have hB := Bk_lt (s := s) p1 p2
    have hS := Sk_lt (s := s) p1 p2
    have hL := Lk_lt p1 p2
    unfold row6 at he
    simp only [List.mem_cons, List.not_mem_nil, or_false] at he
    rw [p3] at he
    generalize Bk r c s (p / c) (p % c) = b1 at *
    generalize Sk r c s (p / c) (p % c) = s1 at *
    generalize Lk c (p / c) (p % c) = l1 at *
    generalize r * c = n at *
    omega
end
end RF

/-! Own rules: len(set(xs)) of any ints, sorted(d) of any number of int keys; a called def by its name (Cal). -/
namespace RF
open PySem PySem.Spec PyProof.Rows L2
/-- the distinct ones, by first meeting -/
def dedI (ns : List Int) : List Int := PyProof.Rows.firstMet (fun i => ns.getD i 0) ns.length
def tLenSetN (K : PySem.W.Frag) (ta : TE) : TE := fun σ H Q => ta σ H fun x H1 => ∃ (l : Addr) (ns : List Int), x = .ref l ∧ SqL K H1 l (ns.map V.int) ∧ ns.length ≤ 4000 ∧ Q (.int ((dedI ns).length : Nat)) H1
theorem firstMet_len (f : Nat → Int) : ∀ n, (PyProof.Rows.firstMet f n).length ≤ n
  | 0 => Nat.le_refl 0
  | n + 1 => by
    rw [PyProof.Rows.firstMet_succ]
    have ih := firstMet_len f n
    unfold step_dedup
    split
    · omega
    · rw [List.length_append, List.length_singleton]; omega
theorem pe_lenSetN {X : Cx} {a : Expr} {ta : TE} {p p2 q pos : Pos} (hg : Gl X "len") (hm : X.mg "len" = none) (hg2 : Gl X "set") (hm2 : X.mg "set" = none) (ha : PE X a ta) (hc : X.calm = true := by rfl)
    (na : starEach [a] X.env = (false, eval a X.env) :: starEach [] X.env := by rfl) : PE X (.Call (.Name "len" p) [.Call (.Name "set" p2) [a] [] q] [] pos) (tLenSetN X.K ta) := by
  refine ⟨fun pins s σ H Q I h => ?_⟩
  refine Call_ (ld_blt I hg hm boot_len ?_)
  refine PyProof.Rows.callWith_builtin1 (PyProof.Rows.args_cons ?_ rfl) rfl rfl
  refine Call_ (ld_blt I hg2 hm2 boot_set ?_)
  refine PyProof.Rows.callWith_type1 (PyProof.Rows.args_cons (thn (ha.run pins s σ H _ I h) fun v s1 ⟨x, H1, I1, r1, q1⟩ => PyProof.Rows.args_nil ?_) na) na rfl
  obtain ⟨l, ns, rfl, hq, hl, q1⟩ := q1
  cases r1
  obtain ⟨its, r, pl, hz⟩ := I1.list hq
  have hlen : its.toArray.size = ns.length := by rw [List.size_toArray, ← r.length, List.length_map]
  refine call_set_list (I1.ok.hd hc) pl.isList (by simpa using RZ.intsAre_vals r) (by rw [hlen]; unfold scanBound; omega) fun h' tk hS hk => ?_
  refine PyProof.Rows.args_nil ?_
  rw [hlen] at hS
  have hd : (dedI ns).length ≤ ns.length := firstMet_len _ _
  obtain ⟨o, es, ep, t, ho, hex, hd', _, _, _, hf, hn⟩ := hS
  have I2 : Inv X pins σ H1 { s1 with heap := h', toks := tk } := I1.kept fun b o e => hk b o (Heap.lt_size e) e
  exact call_len_set ho hex hd' hf (by rw [hn]; unfold dedI at hd; omega) ⟨.int ((dedI ns).length : Nat), H1, I2.tok _, ⟨_, by rw [hn]; rfl⟩, q1⟩
/-- sorted(d) of a dict whose keys are ints, any number of them -/
def rSortedDN : List V → Hp → VK → Prop := fun xs H Q => ∃ (a : Addr) (kvs : List (Key × V)) (ks : List Int), xs = [.ref a] ∧ Rd H a (.dK kvs) ∧ kvs.map (·.1) = ks.map Sum.inl ∧
    ∀ (ys : List Int) (p : Addr), ys.Perm ks → ys.Pairwise (· ≤ ·) → H p = none → Q (.ref p) (upd H p (.lst (ys.map V.int)))
theorem cr_sortedDN {X : Cx} (hcalm : X.calm = true) : CallR X (.builtin "sorted") rSortedDN := by
  intro pins s σ H xs us Q I r q
  obtain ⟨a, kvs, ks, ex, hd, hks, q⟩ := q
  subst ex
  obtain ⟨u, eu, rx⟩ := vals1 r
  subst eu
  cases rx
  obtain ⟨z, lo, vs, rel, dd⟩ := dk_rd I.hok hd
  obtain ⟨ep, hat⟩ := dd.dictAt
  have hkeys : vs.map (·.1) = ks.map Sum.inl := rel.keys.symm.trans hks
  have hl : vs.length = ks.length := by
    have e := congrArg List.length hkeys
    rw [List.length_map, List.length_map] at e
    exact e
  have hlk : kvs.length = ks.length := by
    have e := congrArg List.length hks
    rw [List.length_map, List.length_map] at e
    exact e
  have h16 : vs.length ≤ sizeLine := by rw [hl, ← hlk]; exact z
  refine Calls.call_function_entry PyProof.Rows.kind_sorted PyProof.Rows.plain_sorted PyProof.Rows.entry_sorted (PyProof.Rows.args_sorted1 _) ?_
  unfold Builtin.«sorted»
  refine wpAny_bind (m := checkCount "sorted" 1 1 _) (wpAny_pure ?_)
  refine wpAny_bind (PySem.W.kdu_collect (A := X.A.in1) (PySem.W.kdl_dict (knd := mixKind X.prog X.w) (kvs := vs) (ep := ep) lo) (I.ok.hd hcalm) hat h16 fun h' tk acc hk hacc => ?_)
  have hal : acc.toList.length = ks.length := by rw [Array.length_toList, hacc.1, hl]
  have hS : IntsAre acc.toList ks := ints_each hal fun j v e => by
    obtain ⟨k, x, e1, e2⟩ := hacc.2 j v (by rw [← Array.getElem?_toList]; exact e)
    have e3 : (vs.map (·.1))[j]? = some k := by rw [List.getElem?_map, e1]; rfl
    rw [hkeys, List.getElem?_map] at e3
    cases e4 : ks[j]? with
    | none => rw [e4] at e3; cases e3
    | some y =>
      rw [e4] at e3
      have e5 : Sum.inl y = k := Option.some.inj e3
      subst e5
      rcases keyIs_shape (show keyIs (Sum.inl y) v = true from e2) with ⟨i, t, ek, ev⟩ | ⟨z, t, ek, ev⟩
      · cases ek
        exact ⟨y, t, rfl, ev⟩
      · cases ek
  have I1 : Inv X pins σ H { s with heap := h', toks := tk } := I.kept hk
  have hzz : acc.toList.length ≤ sizeLine := by rw [hal, ← hlk]; exact z
  refine wpAny_bind (wpAny_newList ?_ hzz)
  have hoL : (h'.push (seqObj "list" acc.toList.toArray 0)).get? h'.objs.size = some (seqObj "list" acc.toList.toArray 0) := Heap.get?_push_size _ rfl
  show wpAny _ _ _ _ _ { s with heap := h'.push (seqObj "list" acc.toList.toArray 0), toks := tk }
  refine wpAny_bind (wpAny_holding (wpAny_call_entry PyProof.Rows.slot_list_sort ⟨_, hoL, rfl⟩ PyProof.Rows.entry_list_sort
    (SrtO.list_sort_ord (s := { s with heap := h'.push (seqObj "list" acc.toList.toArray 0), toks := tk }) SrtO.swo_int hoL hzz (fun h2 => SrtO.ints_sortable hS h2) fun out h1 h2 => ⟨_, rfl, ?_⟩) (PyProof.Rows.args_list_sort _)))
  obtain ⟨k1, k2, k3⟩ := SrtO.ints_out hS h1 h2
  obtain ⟨e', he'⟩ := PyProof.Rows.sortedHeap_at (vs := acc.toList) (out := out.toArray) hoL
  have hlen : ((out.map SrtO.iv).map V.int).length ≤ sizeLine := by
    rw [List.length_map, k2.length_eq, ← hlk]
    exact z
  refine wpAny_pure ⟨_, rfl, .ref h'.objs.size, upd H h'.objs.size (.lst ((out.map SrtO.iv).map V.int)), I1.laid (t' := tk) (fun b u e => ?_) (Nat.le_refl _)
    (show ObjOk X.prog X.w _ _ _ (.lst ((out.map SrtO.iv).map V.int)) from ⟨hlen, out, e', vals_of_ints k1, he'⟩), rfl, q _ _ k2 k3 (I1.hok.fresh (Nat.le_refl _))⟩
  have hb : b < h'.objs.size := Heap.lt_size e
  rw [PyProof.Rows.sortedHeap_old (Nat.ne_of_lt hb) (by rw [size_push']; exact Nat.lt_succ_of_lt hb)]
  exact Heap.get?_push_of_some _ e
/-! ### a called def by its name -/
section
variable {P : Program} {w : World} {K : PySem.W.Frag} {mg : Str → Option Value} {base : Heap}
structure Cal (P : Program) (w : World) (K : PySem.W.Frag) (mg : Str → Option Value) (base : Heap) (CX : CXT) (k : Nat) (x : Str) (ps : List Str) (sp : Sp) : Prop where
  ex : ∃ f fd, mg x = some (.ref f) ∧ PySem.W.keepIn K (.ref f) = true ∧ Binds K fd ps [] ∧ FnOk P w K mg base CX k f fd ps sp
/-- a def of the text, where it stands -/
structure Dfn (K : PySem.W.Frag) (mg : Str → Option Value) (x : Str) (st : Stmt) (ps : List Str) : Prop where
  ex : ∃ f fd, Fun K x x st f fd ∧ mg x = some (.ref f) ∧ Binds K fd ps []
theorem cal_mk {CX : CXT} {k : Nat} {x : Str} {st : Stmt} {ps : List Str} {sp : Sp} (D : Dfn K mg x st ps) (h : ∀ f fd, Fun K x x st f fd → FnOk P w K mg base CX k f fd ps sp) : Cal P w K mg base CX k x ps sp := by
  obtain ⟨f, fd, F, g, b⟩ := D.ex
  exact ⟨f, fd, g, F.kp, b, h f fd F⟩
def tCal (sp : Sp) (t : TA) : TE := fun σ H Q => t σ H fun vs H1 => sp vs H1 Q E0
theorem pe_cal {X : Cx} {j k : Nat} {x : Str} {ps : List Str} {sp : Sp} {p pos : Pos} {e : Expr} {es : List Expr} {t : TA} (C : Cal X.prog X.w X.K X.mg X.base CX0 j x ps sp) (hr : Room k X.A) (hjk : j ≤ k) (hg : Gl X x) (ha : PA X (e :: es) t)
    (hn : (x == ("__debug__" : Str)) = false := by decide) (na : starEach (e :: es) X.env = (false, eval e X.env) :: starEach es X.env := by rfl) (nb : ((backTo pos (starEach es X.env)).any fun x => x.1) = false := by rfl) :
    PE X (.Call (.Name x p) (e :: es) [] pos) (tCal sp t) := by
  obtain ⟨f, fd, g, kp, b, F⟩ := C.ex
  have h := pe_call (X := X) (dvs := []) (ds := []) (E := E0) (p := p) (pos := pos) F (hr.mono hjk) hg g kp b .nil pass0 ha hn na nb
  have e : tCal sp t = tCall sp [] E0 t := by
    unfold tCal tCall
    funext σ H Q
    simp only [List.append_nil]
  rw [e]
  exact h
end
/-- the built-ins that the text calls stand unhidden -/
structure Blt (mg : Str → Option Value) : Prop where
  len_ : mg "len" = none
  sum_ : mg "sum" = none
  range_ : mg "range" = none
  enumerate_ : mg "enumerate" = none
  list_ : mg "list" = none
  min_ : mg "min" = none
  max_ : mg "max" = none
  reversed_ : mg "reversed" = none
  set_ : mg "set" = none
  sorted_ : mg "sorted" = none
  isinstance_ : mg "isinstance" = none
  int_ : mg "int" = none
  bool_ : mg "bool" = none
  value_ : mg "ValueError" = none
def top (i : Nat) : Stmt := PySem.Challenge.pw_ringfloor_k56_whole_turn_over.main.body.getD i (.Pass ⟨0, 0, 0, 0⟩)
/-- the scope of a written comprehension, the value of a written assignment -/
def lcScope : Expr → Scope
  | .ListComp _ _ sc _ => sc
  | _ => { kind := .function, names := [], isGenerator := false, isCoroutine := false }
def asgVal : Stmt → Expr
  | .Assign _ e _ => e
  | _ => .Constant .none 0 ⟨0, 0, 0, 0⟩
/-! ### readings in short -/
abbrev rAdd : R2 := rI0 fun i j => .int (i + j)
abbrev rSub : R2 := rI0 fun i j => .int (i - j)
abbrev rMul : R2 := rI CMul fun i j => .int (i * j)
abbrev rDiv : R2 := rI CDivN fun i j => .int (i.fdiv j)
abbrev rMod : R2 := rI (fun _ j => j ≠ 0) fun i j => .int (i.fmod j)
abbrev rPow : R2 := rI CPow fun i j => .int (i ^ j.toNat)
abbrev rLt : R2 := rI0 fun i j => .bl (decide (i < j))
abbrev rLe : R2 := rI0 fun i j => .bl (decide (i ≤ j))
abbrev rGt : R2 := rI0 fun i j => .bl (decide (j < i))
abbrev rGe : R2 := rI0 fun i j => .bl (decide (j ≤ i))
def rIsN : R2 := fun x y H Q => y = .non ∧ Q (.bl (decide (x = .non))) H
def rNotN : R2 := fun x y H Q => y = .non ∧ Q (.bl (!decide (x = .non))) H
abbrev uNeg : V → Hp → VK → Prop := rU fun i => .int (-i)
def bLen (K : PySem.W.Frag) : List V → Hp → VK → Prop := fun xs H Q => ∃ p ys, xs = [.ref p] ∧ (SqL K H p ys ∨ SqT K H p ys) ∧ Q (.int ys.length) H
def bLenD : List V → Hp → VK → Prop := fun xs H Q => ∃ a kvs, xs = [V.ref a] ∧ H a = some (.dK kvs) ∧ Q (.int kvs.length) H
def bList (K : PySem.W.Frag) : List V → Hp → VK → Prop := fun xs H Q => ∃ p ys, xs = [.ref p] ∧ (SqL K H p ys ∨ SqT K H p ys) ∧ ∀ l, H l = none → Q (.ref l) (upd H l (.lst ys))
def bMax : List V → Hp → VK → Prop := fun xs H Q => ∃ i j, xs = [.int i, .int j] ∧ Q (.int (if j > i then j else i)) H
def mIns : V → List V → Hp → VK → Prop := fun x vs H Q => ∃ (l : Addr) (xs : List V) (i : Int) (y : V), x = .ref l ∧ vs = [.int i, y] ∧ H l = some (.lst xs) ∧ xs.length < sizeLine ∧ 0 ≤ i ∧ i < 2 ^ 63 ∧
    Q .non (upd H l (.lst (xs.take i.toNat ++ [y] ++ xs.drop i.toNat)))
abbrev iAdd : TIp := ipI fun i j => i + j
end RF

/-! What stands in the heap, and the defs' promises. -/
namespace RF
open PySem PySem.Spec PyProof.Rows L2
open Evl (Ex)
/-- a list of ints; a list of lists of ints; a dict by its look-ups -/
def IsI (H : Hp) (a : Addr) (ns : List Int) : Prop := H a = some (.lst (ns.map V.int))
structure IsD (H : Hp) (a : Addr) (D : Dr) : Prop where
  ex : ∃ ps : List Addr, H a = some (.lst (ps.map V.ref)) ∧ ps.length = D.length ∧ ∀ (i : Nat) (p : Addr) (r : List Int), ps[i]? = some p → D[i]? = some r → IsI H p r
/-- a dict of int keys and int values -/
structure IsM (H : Hp) (a : Addr) (f : Int → Option Int) : Prop where
  ex : ∃ kvs : List (Key × V), H a = some (.dK kvs) ∧ ∀ z : Int, valV kvs (.inl z) = (f z).map V.int
abbrev SqI (K : PySem.W.Frag) (H : Hp) (a : Addr) (ns : List Int) : Prop := SqL K H a (ns.map V.int)
/-- for each end its place, in a list -/
def seatsL (D : Dr) (m : Nat) : List Int := (List.range (2 * m)).map fun e : Nat => ((seat D (e : Int) : Nat) : Int)
abbrev RetI (H : Hp) (Q : VK) (P : List Int → Prop) : Prop := ∀ H' p ns, Ex H H' → H p = none → IsI H' p ns → P ns → Q (.ref p) H'
abbrev RetD (H : Hp) (Q : VK) (P : Dr → Prop) : Prop := ∀ H' p D, Ex H H' → H p = none → IsD H' p D → P D → Q (.ref p) H'
abbrev RetB (H : Hp) (Q : VK) (P : Prop) : Prop := ∀ H' c, Ex H H' → (c = true ↔ P) → Q (.bl c) H'
abbrev RetM (H : Hp) (Q : VK) (P : (Int → Option Int) → Prop) : Prop := ∀ H' p f, Ex H H' → H p = none → IsM H' p f → P f → Q (.ref p) H'
/-! ### the program -/
def sp_mate_of (_ : PySem.W.Frag) : Sp := fun vs H Q _ => ∃ e : Int, vs = [.int e] ∧ Q (.int (mt e)) H
def sp_least_first (_ : PySem.W.Frag) : Sp := fun vs H Q _ => ∃ (a : Addr) (ns : List Int), vs = [.ref a] ∧ IsI H a ns ∧ ns.length ≤ 10000 ∧ RetI H Q fun ns' => ns'.Perm ns
def sp_begun_at (_ : PySem.W.Frag) : Sp := fun vs H Q _ => ∃ (a : Addr) (ns : List Int) (e : Int), vs = [.ref a, .int e] ∧ IsI H a ns ∧ e ∈ ns ∧ ns.length ≤ 10000 ∧ RetI H Q fun ns' => ∃ r, ns' = e :: r ∧ Rot ns (e :: r)
def sp_count_ends (_ : PySem.W.Frag) : Sp := fun vs H Q _ => ∃ (a : Addr) (D : Dr), vs = [.ref a] ∧ IsD H a D ∧ D.length ≤ 10000 ∧ ∀ H', Ex H H' → Q (.int (D.flatten.length : Nat)) H'
def sp_seats_of (_ : PySem.W.Frag) : Sp := fun vs H Q _ => ∃ (a : Addr) (D : Dr) (m : Nat), vs = [.ref a] ∧ IsD H a D ∧ Valid D m ∧ m ≤ 5000 ∧ D.length ≤ 5000 ∧ RetI H Q fun ns => ns = seatsL D m
def sp_is_walk (_ : PySem.W.Frag) : Sp := fun vs H Q _ => ∃ (a b : Addr) (D : Dr) (m : Nat) (T : List Int), vs = [.ref a, .ref b] ∧ IsD H a D ∧ Valid D m ∧ m ≤ 5000 ∧ D.length ≤ 5000 ∧ IsI H b T ∧ T.length ≤ 10000 ∧ RetB H Q (IsWalk D m T)
def sp_is_round (_ : PySem.W.Frag) : Sp := fun vs H Q _ => ∃ (a b : Addr) (D : Dr) (m : Nat) (T : List Int), vs = [.ref a, .ref b] ∧ IsD H a D ∧ Valid D m ∧ m ≤ 5000 ∧ D.length ≤ 5000 ∧ IsI H b T ∧ T.length ≤ 10000 ∧ RetB H Q (IsTurn D m T)
def sp_ask_round (_ : PySem.W.Frag) : Sp := fun vs H Q _ => ∃ (a b : Addr) (D : Dr) (m : Nat) (T : List Int), vs = [.ref a, .ref b] ∧ IsD H a D ∧ Valid D m ∧ m ≤ 5000 ∧ D.length ≤ 5000 ∧ IsI H b T ∧ T.length ≤ 10000 ∧ IsTurn D m T ∧ ∀ H', Ex H H' → Q .non H'
def sp_cut_along (_ : PySem.W.Frag) : Sp := fun vs H Q _ => ∃ (a b : Addr) (D : Dr) (m : Nat) (T : List Int), vs = [.ref a, .ref b] ∧ IsD H a D ∧ Valid D m ∧ m ≤ 1000 ∧ D.length ≤ 1000 ∧ IsI H b T ∧ T.length ≤ 10000 ∧ IsTurn D m T ∧
  ∀ H' p c x y C, Ex H H' → H' p = some (.tup [.ref c, x, y]) → IsD H' c C → IsCut D T m C → Q (.ref p) H'
def sp_tree_from (_ : PySem.W.Frag) : Sp := fun vs H Q _ => ∃ (a : Addr) (D : Dr) (m r : Nat), vs = [.ref a, .int (r : Int)] ∧ IsD H a D ∧ Valid D m ∧ m ≤ 5000 ∧ D.length ≤ 5000 ∧ r < D.length ∧
  RetM H Q fun f => ∃ nr d, Tree D r nr d ∧ ∀ z : Int, f z = if 0 ≤ z then nr z.toNat else none
def sp_way_up (_ : PySem.W.Frag) : Sp := fun vs H Q _ => ∃ (s n : Addr) (D : Dr) (m r p : Nat) (f : Int → Option Int) (nr : Nat → Option Int) (d : Nat → Nat), vs = [.ref s, .ref n, .int (p : Int)] ∧ IsI H s (seatsL D m) ∧ Valid D m ∧ IsM H n f ∧ Tree D r nr d ∧
  (∀ z : Int, f z = if 0 ≤ z then nr z.toNat else none) ∧ nr p ≠ none ∧ d p ≤ 10000 ∧ RetI H Q fun w => Path D p w r ∧ w.length = d p
def sp_turned_about (_ : PySem.W.Frag) : Sp := fun vs H Q _ => ∃ (a : Addr) (ns : List Int), vs = [.ref a] ∧ IsI H a ns ∧ ns.length ≤ 10000 ∧ RetI H Q fun ns' => ns' = ns.reverse.map mt
def sp_old_end (_ : PySem.W.Frag) : Sp := fun vs H Q _ => ∃ (a : Addr) (T : List Int) (m : Nat) (e : Int), vs = [.ref a, .int (m : Int), .int e] ∧ IsI H a T ∧ 0 ≤ e ∧ e < 2 * (m + T.length) ∧ m ≤ 10000 ∧ Q (.int (oldE T m e)) H
def sp_shortest_back (_ : PySem.W.Frag) : Sp := fun vs H Q _ => ∃ (c s t : Addr) (C : Dr) (mc n : Nat) (T : List Int), vs = [.ref c, .ref s, .int (n : Int), .ref t] ∧ IsD H c C ∧ Valid C mc ∧ mc ≤ 5000 ∧ C.length ≤ 5000 ∧ IsI H s (seatsL C mc) ∧ IsI H t T ∧
  C.length = n + T.length ∧ (∀ e ∈ T, 0 ≤ e ∧ e < 2 * mc) ∧
  ((∀ i, i < T.length → ∀ w, ¬ Path C (n + i) w (seat C (T.getD i 0))) → ∀ H', Ex H H' → Q .non H') ∧
  RetI H Q fun w => ∃ i, i < T.length ∧ Path C (n + i) w (seat C (T.getD i 0)) ∧ ∀ j, j < T.length → ∀ v, Path C (n + j) v (seat C (T.getD j 0)) → w.length ≤ v.length
def sp_turn_over (_ : PySem.W.Frag) : Sp := fun vs H Q _ => ∃ (a b : Addr) (D : Dr) (m : Nat) (T : List Int), vs = [.ref a, .ref b] ∧ IsD H a D ∧ Valid D m ∧ m ≤ 1000 ∧ D.length ≤ 1000 ∧ IsI H b T ∧ T.length ≤ 10000 ∧ IsTurn D m T ∧
  (Parted D T → ∀ H', Ex H H' → Q .non H') ∧ (¬ Parted D T → RetI H Q fun F => IsTurn D m F ∧ crossing D T F = 1)
/-! ### the law's own -/
def sp_law_cell (K : PySem.W.Frag) : Sp := fun vs H Q _ => ∃ (a : Addr) (ns : List Int) (k : Nat), vs = [.ref a, .int (k : Int)] ∧ SqI K H a ns ∧ ns.length ≤ 63 ∧ k ≤ 1000 ∧ ∀ n : Int, Q (.int n) H
def sp_law_draws (_ : PySem.W.Frag) : Sp := fun vs H Q _ => ∃ (c : Int) (a : Addr) (ss : List Int), vs = [.int c, .ref a] ∧ IsI H a ss ∧ (∀ s ∈ ss, 0 < s ∧ s < 1000000) ∧ ss.length ≤ 100000 ∧ RetI H Q fun ps => Drawn ps ss
def sp_law_mate (_ : PySem.W.Frag) : Sp := fun vs H Q _ => ∃ e : Int, vs = [.int e] ∧ Q (.int (mt e)) H
def sp_law_settled (_ : PySem.W.Frag) : Sp := fun vs H Q _ => ∃ (a : Addr) (D : Dr), vs = [.ref a] ∧ IsD H a D ∧ D.length ≤ 10000 ∧ (∀ r ∈ D, r.length ≤ 10000) ∧ RetD H Q fun D' => Rows D' D
def sp_law_drawing (K : PySem.W.Frag) : Sp := fun vs H Q _ => ∃ (a : Addr) (ns : List Int), vs = [.ref a, .int 1, .int 8] ∧ SqI K H a ns ∧ ns.length ≤ 63 ∧ RetD H Q Good
def sp_law_seats (_ : PySem.W.Frag) : Sp := fun vs H Q _ => ∃ (a : Addr) (D : Dr) (m : Nat), vs = [.ref a] ∧ IsD H a D ∧ Valid D m ∧ m ≤ 5000 ∧ D.length ≤ 5000 ∧ RetM H Q fun f => ∀ z, f z = if z ∈ D.flatten then some ((seat D z : Nat) : Int) else none
def sp_law_behind (_ : PySem.W.Frag) : Sp := fun vs H Q _ => ∃ (a : Addr) (D : Dr) (m : Nat), vs = [.ref a] ∧ IsD H a D ∧ Valid D m ∧ m ≤ 5000 ∧ D.length ≤ 5000 ∧
  ∀ H' p kvs, Ex H H' → H p = none → H' p = some (.dK kvs) → kvs.length = 2 * m → (∀ z : Int, valV kvs (.inl z) = if z ∈ D.flatten then some (.int (sig D z)) else none) → Q (.ref p) H'
def sp_law_lands (_ : PySem.W.Frag) : Sp := fun vs H Q _ => ∃ (a : Addr) (D : Dr) (m : Nat), vs = [.ref a] ∧ IsD H a D ∧ Valid D m ∧ m ≤ 5000 ∧ D.length ≤ 5000 ∧ RetD H Q fun Ls => Lands D Ls ∧ Ls.length ≤ 20000
/-- what was told stands but for some addresses -/
def ExB (S : List Addr) (H H' : Hp) : Prop := ∀ b o, b ∉ S → H b = some o → H' b = some o
/-- a list of lists, all unlike, by their addresses -/
structure IsDs (H : Hp) (a : Addr) (ps : List Addr) (D : Dr) : Prop where
  l : H a = some (.lst (ps.map V.ref))
  n : ps.length = D.length
  r : ∀ (i : Nat) (p : Addr) (r : List Int), ps[i]? = some p → D[i]? = some r → IsI H p r
  nd : ps.Nodup
def sp_law_tied (_ : PySem.W.Frag) : Sp := fun vs H Q _ => ∃ (a : Addr) (ps : List Addr) (D : Dr) (m : Nat) (o t : Nat) (hi : Bool), vs = [.ref a, .int (m : Int), .int (o : Int), .int (t : Int), .bl hi] ∧ IsDs H a ps D ∧ Valid D m ∧ m ≤ 100 ∧ D.length ≤ 100 ∧ 0 < D.length ∧ o ≤ 10000 ∧ t ≤ 10000 ∧
  (m = 0 → D = [[]]) ∧ (hi = true → 0 < m ∧ ∃ x y, x ∈ D.flatten ∧ y ∈ D.flatten ∧ ¬ Orb D x y) ∧
  ∀ H' D', ExB (a :: ps) H H' → IsDs H' a ps D' → Valid D' (m + 1) → (hi = false → ∃ x y, x ∈ D'.flatten ∧ y ∈ D'.flatten ∧ ¬ Orb D' x y) → D'.length = D.length → Q .non H'
def sp_law_renamed (_ : PySem.W.Frag) : Sp := fun vs H Q _ => ∃ (a : Addr) (D : Dr) (m : Nat) (c : Int), vs = [.ref a, .int (m : Int), .int c] ∧ IsD H a D ∧ Valid D m ∧ m ≤ 1000 ∧ D.length ≤ 1000 ∧ RetD H Q Good
def sp_law_grown (K : PySem.W.Frag) : Sp := fun vs H Q _ => ∃ (a : Addr) (ns : List Int) (h : Int), vs = [.ref a, .int 1, .int h] ∧ SqI K H a ns ∧ ns.length ≤ 63 ∧ 0 ≤ h ∧ h ≤ 1 ∧ RetD H Q Good
def sp_law_kind (_ : PySem.W.Frag) : Sp := fun vs H Q _ => ∃ (z : Str) (r c s : Nat), vs = [.str z, .int (r : Int), .int (c : Int), .int (s : Int)] ∧ 0 < r ∧ 0 < c ∧ r ≤ 50 ∧ c ≤ 50 ∧ s ≤ 50 ∧ r * c ≤ 300 ∧
  RetD H Q fun D => D.length = r * c ∧ Valid D (if z = "fours" then 2 * (r * c) else 3 * (r * c))
def sp_law_numbers (_ : PySem.W.Frag) : Sp := fun vs H Q _ => ∃ c : Int, vs = [.int c, .int 40] ∧
  ∀ H' p (r c s : Nat), Ex H H' → H' p = some (.tup [.int (r : Int), .int (c : Int), .int (s : Int)]) → 0 < r → 0 < c → r ≤ 50 → c ≤ 50 → s ≤ 50 → r * c ≤ 300 → Q (.ref p) H'
def sp_law_crossed (_ : PySem.W.Frag) : Sp := fun vs H Q _ => ∃ k l : Nat, vs = [.int (k : Int), .int (l : Int)] ∧ 0 < k ∧ 0 < l ∧ k ≤ 60 ∧ l ≤ 60 ∧ RetD H Q fun D => Valid D (k + l) ∧ D.length ≤ 1000
def sp_law_some (K : PySem.W.Frag) : Sp := fun vs H Q _ => ∃ (a : Addr) (ns : List Int) (c : Int), vs = [.ref a, .int c] ∧ SqI K H a ns ∧ ns.length ≤ 63 ∧ 0 ≤ c ∧ c < 8 ∧ RetD H Q Good
/-- what stays: with an end its mate; at no place just one -/
structure Core (D : Dr) (g : Int → Bool) : Prop where
  mate : ∀ e, g (mt e) = g e
  two : ∀ r ∈ D, (r.filter g).length ≠ 1
def sp_law_core (_ : PySem.W.Frag) : Sp := fun vs H Q _ => ∃ (a : Addr) (D : Dr) (m : Nat), vs = [.ref a] ∧ IsD H a D ∧ Valid D m ∧ m ≤ 1000 ∧ D.length ≤ 1000 ∧
  ∀ H' p kvs (ks : List Int) g, Ex H H' → H p = none → H' p = some (.dK kvs) → kvs.map (·.1) = ks.map Sum.inl → ks.Perm D.flatten → (∀ z : Int, valV kvs (.inl z) = if z ∈ D.flatten then some (.bl (g z)) else none) → Core D g → Q (.ref p) H'
def sp_law_turn (_ : PySem.W.Frag) : Sp := fun vs H Q _ => ∃ (a : Addr) (D : Dr) (m : Nat) (c : Int), vs = [.ref a, .int c] ∧ IsD H a D ∧ Valid D m ∧ m ≤ 1000 ∧ D.length ≤ 1000 ∧ RetI H Q fun T => T.length ≤ 2000
def sp_law_about (_ : PySem.W.Frag) : Sp := fun vs H Q _ => ∃ (a : Addr) (ns : List Int), vs = [.ref a] ∧ IsI H a ns ∧ ns.length ≤ 10000 ∧ RetI H Q fun ns' => ns' = ns.reverse.map mt
def sp_law_spoilt (_ : PySem.W.Frag) : Sp := fun vs H Q _ => ∃ (a b : Addr) (T : List Int) (n h x y z : Nat), vs = [.ref a, .int (n : Int), .ref b] ∧ IsI H a T ∧ T.length ≤ 2000 ∧ n ≤ 10000 ∧ IsI H b [(h : Int), (x : Int), (y : Int), (z : Int)] ∧ h ≤ 100 ∧ x ≤ 100 ∧ y ≤ 100 ∧ z ≤ 100 ∧ RetI H Q fun T' => T'.length ≤ 3000
def sp_law_is_walk (_ : PySem.W.Frag) : Sp := fun vs H Q _ => ∃ (a b : Addr) (D : Dr) (m : Nat) (T : List Int), vs = [.ref a, .ref b] ∧ IsD H a D ∧ Valid D m ∧ m ≤ 5000 ∧ D.length ≤ 5000 ∧ IsI H b T ∧ T.length ≤ 4000 ∧ RetB H Q (IsWalk D m T)
def sp_law_is_turn (_ : PySem.W.Frag) : Sp := fun vs H Q _ => ∃ (a b : Addr) (D : Dr) (m : Nat) (T : List Int), vs = [.ref a, .ref b] ∧ IsD H a D ∧ Valid D m ∧ m ≤ 5000 ∧ D.length ≤ 5000 ∧ IsI H b T ∧ T.length ≤ 4000 ∧ RetB H Q (IsTurn D m T)
def sp_law_lefts (_ : PySem.W.Frag) : Sp := fun vs H Q _ => ∃ (a b : Addr) (D : Dr) (m : Nat) (T : List Int), vs = [.ref a, .ref b] ∧ IsD H a D ∧ Valid D m ∧ m ≤ 5000 ∧ D.length ≤ 5000 ∧ IsI H b T ∧ T.length ≤ 4000 ∧ IsTurn D m T ∧
  RetI H Q fun ns => ns = (List.range (2 * m)).map fun e : Nat => cnt D T (e : Int)
def sp_law_crossing (_ : PySem.W.Frag) : Sp := fun vs H Q _ => ∃ (a b c : Addr) (D : Dr) (m : Nat) (T F : List Int), vs = [.ref a, .ref b, .ref c] ∧ IsD H a D ∧ Valid D m ∧ m ≤ 5000 ∧ D.length ≤ 5000 ∧ IsI H b T ∧ T.length ≤ 4000 ∧ IsTurn D m T ∧ IsI H c F ∧ F.length ≤ 4000 ∧
  (∀ e ∈ F, 0 ≤ e ∧ e < 2 * m) ∧ ∀ H', Ex H H' → Q (.int (crossing D T F)) H'
def sp_law_wholes (_ : PySem.W.Frag) : Sp := fun vs H Q _ => ∃ (a : Addr) (ns : List Int), vs = [.ref a] ∧ IsI H a ns ∧ ∀ H', Ex H H' → Q (.bl true) H'
def sp_law_parted (_ : PySem.W.Frag) : Sp := fun vs H Q _ => ∃ (a b : Addr) (D : Dr) (m : Nat) (T : List Int), vs = [.ref a, .ref b] ∧ IsD H a D ∧ Valid D m ∧ m ≤ 1000 ∧ D.length ≤ 1000 ∧ IsI H b T ∧ T.length ≤ 4000 ∧ IsTurn D m T ∧ RetB H Q (Parted D T)
def sp_law_paper (_ : PySem.W.Frag) : Sp := fun vs H Q _ => ∃ (a b : Addr) (x : V) (D : Dr) (m : Nat) (T : List Int), vs = [.ref a, .ref b, x] ∧ IsD H a D ∧ Valid D m ∧ m ≤ 1000 ∧ D.length ≤ 1000 ∧ IsI H b T ∧ T.length ≤ 4000 ∧ IsTurn D m T ∧
  ((x = .non ∧ Parted D T) ∨ ∃ c F, x = .ref c ∧ ¬ Parted D T ∧ IsI H c F ∧ IsTurn D m F ∧ crossing D T F = 1) ∧ ∀ H', Ex H H' → Q (.bl true) H'
def sp_law_refused (_ : PySem.W.Frag) : Sp := fun vs H Q _ => ∃ (a b : Addr) (D : Dr) (m : Nat) (T : List Int), vs = [.ref a, .ref b] ∧ IsD H a D ∧ Valid D m ∧ m ≤ 1000 ∧ D.length ≤ 1000 ∧ IsI H b T ∧ T.length ≤ 4000 ∧ ¬ IsTurn D m T ∧ ∀ H', Ex H H' → Q (.bl true) H'
def sp_law (K : PySem.W.Frag) : Sp := fun vs H Q _ => ∃ (a : Addr) (ns : List Int), vs = [.ref a] ∧ SqI K H a ns ∧ ns.length ≤ 63 ∧ ∀ H', Q (.bl true) H'
end RF

/-! Small helps for the readings. -/
namespace RF
open PySem PySem.Spec PyProof.Rows L2
open Evl (Ex)
theorem fmod2 (e : Int) : Int.fmod e 2 = e % 2 := Int.fmod_eq_emod_of_nonneg e (by decide)
theorem fdiv2 (e : Int) : Int.fdiv e 2 = e / 2 := Int.fdiv_eq_ediv_of_nonneg e (by decide)
theorem mt_is (e : Int) : e + 1 - 2 * Int.fmod e 2 = mt e := by rw [fmod2]; rfl
theorem i2_ne : (2 : Int) ≠ 0 := by decide
theorem cdiv2 {i : Int} : CDivN i 2 := ⟨by decide, by decide⟩
theorem cmulc {i j : Int} (h : -(2 ^ 64) < i ∧ i < 2 ^ 64) : CMul i j := .inl h
theorem cmulc2 {i j : Int} (h : -(2 ^ 64) < j ∧ j < 2 ^ 64) : CMul i j := .inr h
theorem cmod {j : Int} (h : j ≠ 0) : j ≠ 0 := h
theorem cpow {i j : Int} (h : 0 ≤ j ∧ j ≤ 1000000 ∧ i.natAbs < 2 ^ 64) : CPow i j := h
theorem cdivn {i j : Int} (h : j ≠ 0 ∧ j.natAbs < 1073741824) : CDivN i j := h
theorem fmod_rg {a b : Int} (h : 0 < b) : 0 ≤ Int.fmod a b ∧ Int.fmod a b < b := by
  rw [Int.fmod_eq_emod_of_nonneg a (by omega)]
  exact ⟨Int.emod_nonneg a (by omega), Int.emod_lt_of_pos a h⟩
theorem fmod_nat (a b : Nat) : Int.fmod (a : Int) (b : Int) = ((a % b : Nat) : Int) := by
  rw [Int.fmod_eq_emod_of_nonneg _ (by omega)]; rfl
theorem sz5 {n : Nat} (h : n ≤ 1000000) : n ≤ sizeLine := Nat.le_trans h (by decide)
theorem sz5' {n : Nat} (h : n < 1000000) : n < sizeLine := Nat.lt_of_lt_of_le h (by decide)
/-! ### what stands -/
section
variable {K : PySem.W.Frag} {H H' : Hp} {a b p : Addr} {ns : List Int} {D : Dr} {f : Int → Option Int} {xs : List V}
theorem sq (h : H a = some (.lst xs)) : SqL K H a xs := .inl (.inl h)
theorem IsI.sq (h : IsI H a ns) : SqL K H a (ns.map V.int) := .inl (.inl h)
theorem IsI.ex (h : IsI H a ns) (e : Ex H H') : IsI H' a ns := e _ _ h
theorem IsD.ex' (h : IsD H a D) (e : Ex H H') : IsD H' a D := by
  obtain ⟨ps, h1, h2, h3⟩ := h.ex
  exact ⟨⟨ps, e _ _ h1, h2, fun i p r hp hr => (h3 i p r hp hr).ex e⟩⟩
theorem IsM.ex' (h : IsM H a f) (e : Ex H H') : IsM H' a f := by
  obtain ⟨kvs, h1, h2⟩ := h.ex
  exact ⟨⟨kvs, e _ _ h1, h2⟩⟩
theorem all_new {Q : V → Hp → Prop} {o : HO} (h : ∀ p H', Ex H H' → H p = none → H' p = some o → Q (.ref p) H') : ∀ p, H p = none → Q (.ref p) (upd H p o) := fun p hp => h p _ (Ex.new hp) hp upd_same
theorem ex_back (e : Ex H H') (h : H' p = none) : H p = none := Evl.fresh_back e h
/-- a list is changed that was not there at first -/
theorem ex_mut {o : HO} (e : Ex H H') (h : H p = none) : Ex H (upd H' p o) := e.mut h
theorem upd_ot {o u : HO} (h : H b = some u) (n : H a = some o) {u' : HO} (d : o ≠ u) : (upd H a u') b = some u := by
  rw [upd_ne]
  · exact h
  · intro e; subst e; rw [h] at n; exact d (Option.some.inj n).symm
theorem ffalse {P : Prop} (h : ¬ P) : (false = true ↔ P) := ⟨fun q => Bool.noConfusion q, fun p => absurd p h⟩
theorem ftrue {P : Prop} (h : P) : (true = true ↔ P) := ⟨fun _ => h, fun _ => rfl⟩
/-! ### tests -/
theorem iteD {c : Prop} [Decidable c] {A B : Prop} (h1 : c → A) (h2 : ¬ c → B) : if decide c = true then A else B := by
  by_cases h : c
  · rw [if_pos (decide_eq_true h)]; exact h1 h
  · rw [if_neg (by simp [h])]; exact h2 h
theorem iteN {c : Prop} [Decidable c] {A B : Prop} (h1 : ¬ c → A) (h2 : c → B) : if (!decide c) = true then A else B := by
  by_cases h : c
  · rw [if_neg (by simp [h])]; exact h2 h
  · rw [if_pos (by simp [h])]; exact h1 h
theorem iteEq {i j : Int} {A B : Prop} (h1 : i = j → A) (h2 : i ≠ j → B) : if decide (V.int i = V.int j) = true then A else B :=
  iteD (fun h => h1 (V.int.inj h)) fun h => h2 fun e => h (congrArg V.int e)
theorem iteNe {i j : Int} {A B : Prop} (h1 : i ≠ j → A) (h2 : i = j → B) : if (!decide (V.int i = V.int j)) = true then A else B :=
  iteN (fun h => h1 fun e => h (congrArg V.int e)) fun h => h2 (V.int.inj h)
theorem iteB {c : Bool} {A B : Prop} (h1 : c = true → A) (h2 : c = false → B) : if c = true then A else B := by
  cases c with
  | true => rw [if_pos rfl]; exact h1 rfl
  | false => rw [if_neg (by decide)]; exact h2 rfl
theorem iteBn {c : Bool} {A B : Prop} (h1 : c = false → A) (h2 : c = true → B) : if (!c) = true then A else B := by
  cases c with
  | true =>
    show if false = true then A else B
    rw [if_neg (by decide)]; exact h2 rfl
  | false =>
    show if true = true then A else B
    rw [if_pos rfl]; exact h1 rfl
/-! ### operations on lists of ints -/
variable {Q : VK} {z : Int} {i n : Nat}
theorem getM (h : ns[i]? = some z) : (ns.map V.int)[i]? = some (V.int z) := by rw [List.getElem?_map, h]; rfl
theorem getM' {x : V} (h : (ns.map V.int)[i]? = some x) : ∃ z, ns[i]? = some z ∧ x = .int z := by
  rw [List.getElem?_map] at h
  cases e : ns[i]? with
  | none => rw [e] at h; cases h
  | some z => rw [e] at h; exact ⟨z, rfl, (Option.some.inj h).symm⟩
theorem a_ix (h : IsI H a ns) (hi : ns[i]? = some z) (k : Q (.int z) H) : rIxL K (.ref a) (.int (i : Int)) H Q := ⟨_, _, _, _, rfl, rfl, h.sq, atI_nat (getM hi), k⟩
/-- by an int -/
theorem a_ixz {j : Int} (h : IsI H a ns) (h0 : 0 ≤ j) (hi : ns[j.toNat]? = some z) (k : Q (.int z) H) : rIxL K (.ref a) (.int j) H Q := by
  have e : j = (j.toNat : Int) := by omega
  rw [e]; exact a_ix h hi k
theorem cut_from (xs : List V) (n : Nat) : cutV xs (some (n : Int)) none = xs.drop n := by
  unfold cutV
  rw [HT.sIx_nat, HT.sIx_none]
  by_cases h : n ≤ xs.length
  · rw [Nat.min_eq_left h]; exact List.take_of_length_le (by rw [List.length_drop]; omega)
  · rw [Nat.min_eq_right (by omega), List.drop_length, List.drop_of_length_le (by omega), List.take_nil]
theorem cut_to (xs : List V) (n : Nat) : cutV xs none (some (n : Int)) = xs.take n := by
  unfold cutV
  rw [HT.sIx_nat, HT.sIx_none]
  show (xs.take (min n xs.length - 0)) = xs.take n
  rw [Nat.sub_zero]
  by_cases h : n ≤ xs.length
  · rw [Nat.min_eq_left h]
  · rw [Nat.min_eq_right (by omega), List.take_length, List.take_of_length_le (by omega)]
theorem a_from (h : IsI H a ns) (k : ∀ p H', Ex H H' → H p = none → IsI H' p (ns.drop n) → Q (.ref p) H') : rSlL K (.ref a) (some (n : Int)) none H Q :=
  ⟨_, _, rfl, h.sq, all_new fun p H' e np hp => k p H' e np (by rw [cut_from] at hp; unfold IsI; rw [List.map_drop]; exact hp)⟩
theorem a_to (h : IsI H a ns) (k : ∀ p H', Ex H H' → H p = none → IsI H' p (ns.take n) → Q (.ref p) H') : rSlL K (.ref a) none (some (n : Int)) H Q :=
  ⟨_, _, rfl, h.sq, all_new fun p H' e np hp => k p H' e np (by rw [cut_to] at hp; unfold IsI; rw [List.map_take]; exact hp)⟩
theorem a_cat {ms : List Int} (h : IsI H a ns) (h' : IsI H b ms) (hl : ns.length + ms.length ≤ 1000000) (k : ∀ p H', Ex H H' → H p = none → IsI H' p (ns ++ ms) → Q (.ref p) H') : rCat (.ref a) (.ref b) H Q :=
  ⟨_, _, _, _, rfl, rfl, h, h', by rw [List.length_map, List.length_map]; exact sz5 hl, all_new fun p H' e np hp => k p H' e np (by unfold IsI; rw [List.map_append]; exact hp)⟩
theorem a_app (h : IsI H a ns) (hl : ns.length < 1000000) (k : Q .non (upd H a (.lst ((ns ++ [z]).map V.int)))) : rAppend (.ref a) [.int z] H Q :=
  ⟨_, _, _, rfl, rfl, h, by rw [List.length_map]; exact sz5' hl, by rw [List.map_append] at k; exact k⟩
theorem a_len (h : IsI H a ns) (k : Q (.int (ns.length : Nat)) H) : bLen K [.ref a] H Q := ⟨_, _, rfl, .inl h.sq, by rw [List.length_map]; exact k⟩
theorem a_lenS (h : SqL K H a (ns.map V.int)) (k : Q (.int (ns.length : Nat)) H) : bLen K [.ref a] H Q := ⟨_, _, rfl, .inl h, by rw [List.length_map]; exact k⟩
theorem a_ixS (h : SqL K H a (ns.map V.int)) (hi : ns[i]? = some z) (k : Q (.int z) H) : rIxL K (.ref a) (.int (i : Int)) H Q := ⟨_, _, _, _, rfl, rfl, h, atI_nat (getM hi), k⟩
theorem a_list (h : IsI H a ns) (k : ∀ p H', Ex H H' → H p = none → IsI H' p ns → Q (.ref p) H') : bList K [.ref a] H Q := ⟨_, _, rfl, .inl h.sq, all_new k⟩
theorem a_sum (h : IsI H a ns) (k : Q (.int ns.sum) H) : L2.rSum K [.ref a] H Q := ⟨_, _, rfl, h.sq, k⟩
theorem flat_ints (ns : List Int) : (ns.map V.int).all flatV = true := by
  induction ns with
  | nil => rfl
  | cons x r ih => rw [List.map_cons, List.all_cons, ih]; rfl
theorem eqv_ints (x y : Int) : eqV (V.int x) (V.int y) = decide (x = y) := by
  by_cases h : x = y
  · subst h; simp [eqV]
  · simp [eqV, h]
theorem a_index (h : IsI H a ns) (hz : z ∈ ns) (k : ∀ j : Nat, ns[j]? = some z → (∀ m : Nat, m < j → ns[m]? ≠ some z) → Q (.int (j : Nat)) H) : rIndex K (.ref a) [.int z] H Q := by
  have hj : ∃ j : Nat, ns[j]? = some z ∧ ∀ m : Nat, m < j → ns[m]? ≠ some z := by
    clear k h
    induction ns with
    | nil => cases hz
    | cons x r ih =>
      by_cases e : x = z
      · subst e; exact ⟨0, rfl, fun m hm => absurd hm (Nat.not_lt_zero _)⟩
      · have hz' : z ∈ r := by
          rcases List.mem_cons.mp hz with e' | e'
          · exact absurd e'.symm e
          · exact e'
        obtain ⟨j, h1, h2⟩ := ih hz'
        refine ⟨j + 1, h1, fun m hm => ?_⟩
        cases m with
        | zero => intro q; exact e (Option.some.inj q)
        | succ m => exact h2 m (by omega)
  obtain ⟨j, h1, h2⟩ := hj
  refine ⟨_, _, _, j, .int z, rfl, rfl, h.sq, rfl, flat_ints ns, getM h1, by rw [eqv_ints]; simp, fun m z' hm hz' => ?_, k j h1 h2⟩
  obtain ⟨y, hy, rfl⟩ := getM' hz'
  rw [eqv_ints]
  have : y ≠ z := by rintro rfl; exact h2 m hm hy
  simp [this]
theorem a_min (h : IsI H a ns) (h0 : 0 < ns.length) (k : ∀ m, m ∈ ns → Q (.int m) H) : L2.rMin K [.ref a] H Q := ⟨_, _, rfl, h.sq, h0, fun m hm _ => k m hm⟩
theorem rep_flat (n : Nat) (z : Int) : (List.replicate n [V.int z]).flatten = (List.replicate n z).map V.int := by
  induction n with
  | zero => rfl
  | succ n ih => rw [List.replicate_succ, List.replicate_succ, List.flatten_cons, ih]; rfl
theorem a_rep {n : Nat} (h : IsI H a [z]) (hn : n ≤ 1000000) (k : ∀ p H', Ex H H' → H p = none → IsI H' p (List.replicate n z) → Q (.ref p) H') : rRep (.ref a) (.int (n : Int)) H Q :=
  ⟨_, _, _, rfl, rfl, h, by omega, by omega, sz5 (by rw [List.length_map]; simp; exact hn), all_new fun p H' e np hp => k p H' e np (by unfold IsI; rw [← rep_flat]; exact hp)⟩
theorem a_set {i : Nat} {y : Int} {R : Hp → Prop} (h : IsI H a ns) (hi : i < ns.length) (k : R (upd H a (.lst ((ns.set i y).map V.int)))) : rSetL (.ref a) (.int (i : Int)) (.int y) H R :=
  ⟨_, _, _, i, rfl, rfl, h, Evl.ixN_nat (by rw [List.length_map]; exact hi), by rw [← List.map_set]; exact k⟩
def NewL (xs : List V) (H : Hp) (Q : VK) : Prop := xs.length ≤ sizeLine ∧ ∀ p, H p = none → Q (.ref p) (upd H p (.lst xs))
def NewT (xs : List V) (H : Hp) (Q : VK) : Prop := xs.length ≤ sizeLine ∧ ∀ p, H p = none → Q (.ref p) (upd H p (.tup xs))
theorem newL {R : VK} (hz : xs.length ≤ 1000000) (k : ∀ p H', Ex H H' → H p = none → H' p = some (.lst xs) → R (.ref p) H') : NewL xs H R := ⟨sz5 hz, all_new k⟩
theorem newT {R : VK} (hz : xs.length ≤ 1000000) (k : ∀ p H', Ex H H' → H p = none → H' p = some (.tup xs) → R (.ref p) H') : NewT xs H R := ⟨sz5 hz, all_new k⟩
theorem new1 {R : VK} (k : ∀ p H', Ex H H' → H p = none → IsI H' p [z] → R (.ref p) H') : NewL [V.int z] H R := newL (by show 1 ≤ 1000000; decide) k
theorem new0 {R : VK} (k : ∀ p H', Ex H H' → H p = none → IsI H' p [] → R (.ref p) H') : NewL [] H R := newL (by show 0 ≤ 1000000; decide) k
theorem tyl {x : List V} (h : H a = some (.lst x)) : tyV K "list" (.ref a) H := .inl ⟨rfl, _, sq h⟩
end
/-! ### dicts -/
def rDIn (x y : V) (H : Hp) (Q : VK) : Prop := ∃ a o, x = .ref a ∧ DGet H a y o ∧ Q (.bl o.isSome) H
def rDNin (x y : V) (H : Hp) (Q : VK) : Prop := ∃ a o, x = .ref a ∧ DGet H a y o ∧ Q (.bl (!o.isSome)) H
def rDGet (x y : V) (H : Hp) (Q : VK) : Prop := ∃ a v, x = .ref a ∧ DGet H a y (some v) ∧ Q v H
def rDPut (x y v : V) (H : Hp) (R : Hp → Prop) : Prop := ∃ a H4, x = .ref a ∧ DPut H a y v H4 ∧ R H4
/-- a dict of int keys, by its look-ups; at most n entries -/
structure IsT (H : Hp) (a : Addr) (g : Int → Option V) (n : Nat) : Prop where
  ex : ∃ kvs : List (Key × V), H a = some (.dK kvs) ∧ kvs.length ≤ n ∧ ∀ z : Int, valV kvs (.inl z) = g z
section
variable {H H' : Hp} {a : Addr} {g : Int → Option V} {n : Nat} {z : Int} {v : V} {Q : VK} {R : Hp → Prop}
theorem IsT.ex' (h : IsT H a g n) (e : Ex H H') : IsT H' a g n := by
  obtain ⟨kvs, h1, h2⟩ := h.ex
  exact ⟨⟨kvs, e _ _ h1, h2⟩⟩
theorem t_new (h : H a = some (.dK [])) : IsT H a (fun _ => none) 0 := ⟨⟨[], h, Nat.le_refl _, fun _ => rfl⟩⟩
theorem t_in (h : IsT H a g n) (k : Q (.bl (g z).isSome) H) : rDIn (.ref a) (.int z) H Q := by
  obtain ⟨kvs, h1, _, h3⟩ := h.ex
  refine ⟨a, _, rfl, .inl ⟨kvs, .inl z, .inl h1, rfl, rfl⟩, ?_⟩
  rw [h3]; exact k
theorem t_nin (h : IsT H a g n) (k : Q (.bl (!(g z).isSome)) H) : rDNin (.ref a) (.int z) H Q := by
  obtain ⟨kvs, h1, _, h3⟩ := h.ex
  refine ⟨a, _, rfl, .inl ⟨kvs, .inl z, .inl h1, rfl, rfl⟩, ?_⟩
  rw [h3]; exact k
theorem t_get (h : IsT H a g n) (hz : g z = some v) (k : Q v H) : rDGet (.ref a) (.int z) H Q := by
  obtain ⟨kvs, h1, _, h3⟩ := h.ex
  exact ⟨a, v, rfl, .inl ⟨kvs, .inl z, .inl h1, rfl, by rw [h3, hz]⟩, k⟩
def putT (g : Int → Option V) (z : Int) (v : V) : Int → Option V := fun w => if w = z then some v else g w
theorem t_put (h : IsT H a g n) (hn : n < 1000000) (k : ∀ o, IsT (upd H a o) a (putT g z v) (n + 1) → R (upd H a o)) : rDPut (.ref a) (.int z) v H R := by
  obtain ⟨kvs, h1, h2, h3⟩ := h.ex
  refine ⟨a, _, rfl, .inl ⟨kvs, .inl z, h1, rfl, sz5' (by omega), rfl⟩, k _ ⟨⟨_, upd_same, Nat.le_trans (length_putK _ _ _) (by omega), fun w => ?_⟩⟩⟩
  rw [valV_put]
  unfold putT
  by_cases e : w = z
  · subst e; rw [if_pos rfl, if_pos rfl]
  · rw [if_neg (fun q => e (Sum.inl.inj q)), if_neg e, h3]
theorem IsT.toM (h : IsT H a g n) {f : Int → Option Int} (e : ∀ z, g z = (f z).map V.int) : IsM H a f := by
  obtain ⟨kvs, h1, _, h3⟩ := h.ex
  exact ⟨⟨kvs, h1, fun z => by rw [h3, e]⟩⟩
theorem IsM.toT {f : Int → Option Int} (h : IsM H a f) : ∃ n, IsT H a (fun z => (f z).map V.int) n := by
  obtain ⟨kvs, h1, h3⟩ := h.ex
  exact ⟨_, ⟨kvs, h1, Nat.le_refl _, h3⟩⟩
theorem m_get {f : Int → Option Int} {i : Int} (h : IsM H a f) (hz : f z = some i) (k : Q (.int i) H) : rDGet (.ref a) (.int z) H Q := by
  obtain ⟨n, h⟩ := h.toT
  exact t_get h (by rw [hz]; rfl) k
theorem m_in {f : Int → Option Int} (h : IsM H a f) (k : Q (.bl (f z).isSome) H) : rDIn (.ref a) (.int z) H Q := by
  obtain ⟨n, h⟩ := h.toT
  refine t_in h ?_
  rw [Option.isSome_map]; exact k
theorem m_nin {f : Int → Option Int} (h : IsM H a f) (k : Q (.bl (!(f z).isSome)) H) : rDNin (.ref a) (.int z) H Q := by
  obtain ⟨n, h⟩ := h.toT
  refine t_nin h ?_
  rw [Option.isSome_map]; exact k
end
/-- a dict whose keys are l, in their order, with the values F -/
structure IsK (H : Hp) (a : Addr) (l : List Int) (F : Int → V) : Prop where
  ex : ∃ kvs : List (Key × V), H a = some (.dK kvs) ∧ kvs.map (·.1) = l.map Sum.inl ∧ ∀ z : Int, valV kvs (.inl z) = if z ∈ l then some (F z) else none
section
variable {H H' : Hp} {a : Addr} {l : List Int} {F G : Int → V} {z : Int} {v : V} {Q : VK} {R : Hp → Prop}
theorem IsK.ex' (h : IsK H a l F) (e : Ex H H') : IsK H' a l F := by
  obtain ⟨kvs, h1, h2⟩ := h.ex
  exact ⟨⟨kvs, e _ _ h1, h2⟩⟩
theorem k_new (F : Int → V) (h : H a = some (.dK [])) : IsK H a [] F := ⟨⟨[], h, rfl, fun z => rfl⟩⟩
theorem IsK.toT (h : IsK H a l F) : IsT H a (fun z => if z ∈ l then some (F z) else none) l.length := by
  obtain ⟨kvs, h1, h2, h3⟩ := h.ex
  refine ⟨⟨kvs, h1, ?_, h3⟩⟩
  have := congrArg List.length h2
  rw [List.length_map, List.length_map] at this
  omega
theorem k_in (h : IsK H a l F) (k : ∀ c : Bool, (c = true ↔ z ∈ l) → Q (.bl c) H) : rDIn (.ref a) (.int z) H Q := by
  refine t_in h.toT ?_
  by_cases e : z ∈ l
  · rw [if_pos e]; exact k true ⟨fun _ => e, fun _ => rfl⟩
  · rw [if_neg e]; exact k false ⟨fun q => Bool.noConfusion q, fun q => absurd q e⟩
theorem k_nin (h : IsK H a l F) (k : ∀ c : Bool, (c = true ↔ z ∈ l) → Q (.bl (!c)) H) : rDNin (.ref a) (.int z) H Q := by
  refine t_nin h.toT ?_
  by_cases e : z ∈ l
  · rw [if_pos e]; exact k true ⟨fun _ => e, fun _ => rfl⟩
  · rw [if_neg e]; exact k false ⟨fun q => Bool.noConfusion q, fun q => absurd q e⟩
theorem k_get (h : IsK H a l F) (hz : z ∈ l) (k : Q (F z) H) : rDGet (.ref a) (.int z) H Q := t_get h.toT (if_pos hz) k
theorem k_put (h : IsK H a l F) (hz : z ∉ l) (hn : l.length < 1000000) (hv : v = F z) (k : ∀ o, IsK (upd H a o) a (l ++ [z]) F → R (upd H a o)) : rDPut (.ref a) (.int z) v H R := by
  obtain ⟨kvs, h1, h2, h3⟩ := h.ex
  have hl := congrArg List.length h2
  rw [List.length_map, List.length_map] at hl
  have hno : valV kvs (.inl z) = none := by rw [h3, if_neg hz]
  refine ⟨a, _, rfl, .inl ⟨kvs, .inl z, h1, rfl, sz5' (by omega), rfl⟩, k _ ⟨⟨_, upd_same, ?_, fun w => ?_⟩⟩⟩
  · rw [putK_new v hno, List.map_append, List.map_append, h2]; rfl
  · rw [valV_put]
    by_cases e : w = z
    · subst e; rw [if_pos rfl, if_pos (List.mem_append_right _ (List.mem_singleton.mpr rfl)), hv]
    · rw [if_neg (fun q => e (Sum.inl.inj q)), h3]
      by_cases q : w ∈ l
      · rw [if_pos q, if_pos (List.mem_append_left _ q)]
      · rw [if_neg q, if_neg (fun q2 => (List.mem_append.mp q2).elim q fun q3 => e (List.mem_singleton.mp q3))]
/-- a value changed -/
theorem k_set (h : IsK H a l F) (hz : z ∈ l) (hn : l.length < 1000000) (k : ∀ o, IsK (upd H a o) a l (fun w => if w = z then v else F w) → R (upd H a o)) : rDPut (.ref a) (.int z) v H R := by
  obtain ⟨kvs, h1, h2, h3⟩ := h.ex
  have hl := congrArg List.length h2
  rw [List.length_map, List.length_map] at hl
  have hyes : valV kvs (.inl z) = some (F z) := by rw [h3, if_pos hz]
  refine ⟨a, _, rfl, .inl ⟨kvs, .inl z, h1, rfl, sz5' (by omega), rfl⟩, k _ ⟨⟨_, upd_same, ?_, fun w => ?_⟩⟩⟩
  · unfold putK
    rw [valV_any, hyes]
    rw [if_pos (show (some (F z)).isSome = true from rfl), ← h2, List.map_map]
    apply List.map_congr_left
    intro p _
    show (if p.1 = Sum.inl z then (p.1, v) else p).1 = p.1
    split <;> rfl
  · rw [valV_put]
    by_cases e : w = z
    · subst e; rw [if_pos rfl, if_pos hz, if_pos rfl]
    · rw [if_neg (fun q => e (Sum.inl.inj q)), h3, if_neg e]
theorem IsK.toM {f : Int → Int} (h : IsK H a l (fun z => .int (f z))) : IsM H a (fun z => if z ∈ l then some (f z) else none) :=
  h.toT.toM fun z => by by_cases e : z ∈ l <;> simp [e]
theorem k_len (h : IsK H a l F) (k : Q (.int (l.length : Nat)) H) : bLenD [.ref a] H Q := by
  obtain ⟨kvs, h1, h2, h3⟩ := h.ex
  have hl := congrArg List.length h2
  rw [List.length_map, List.length_map] at hl
  exact ⟨a, kvs, rfl, h1, by rw [hl]; exact k⟩
end
/-! ### steps: a reading's form, one by one -/
section
variable {K : PySem.W.Frag} {σ : L2.St} {H : Hp} {Q : VK} {D : Ends} {t u : TS} {ta tb tc tx : TE} {c d : TT} {i : Nat} {v x y z : V} {r : R2} {g : TG}
theorem s_seq (k : t { D with nx := u D } σ H) : tSeq t u D σ H := k
theorem s_next (k : D.nx σ H) : tNext D σ H := k
theorem s_asg (k : ta σ H fun x H1 => D.nx (σ.set i (some x)) H1) : tAsg ta (gName i) D σ H := k
theorem s_asgS {to ti : TE} (k : ta σ H fun v H1 => to σ H1 fun o H2 => ti σ H2 fun j H3 => rSetL o j v H3 fun H4 => D.nx σ H4) : tAsg ta (gSub to ti rSetL) D σ H := k
theorem s_asgU {n : Nat} {t : TGs} (k : ta σ H fun v H1 => gUnl K n t v σ H1 D.nx) : tAsg ta (gUnl K n t) D σ H := k
theorem s_ret (k : ta σ H D.rt) : tRet ta D σ H := k
theorem s_retN (k : D.rt .non H) : tRetN D σ H := k
theorem s_drop (k : ta σ H fun _ H1 => D.nx σ H1) : tDrop ta D σ H := k
theorem s_if (k : c σ H fun b H1 => if b = true then t D σ H1 else u D σ H1) : tIfS c t u D σ H := k
theorem s_aug {ti : TIp} {a : V} (h : σ[i]? = some (some a)) (k : ta σ H fun y H1 => ti a y H1 fun z H2 => D.nx (σ.set i (some z)) H2) : tAug i ta ti D σ H := ⟨a, h, k⟩
theorem s_ipI {f : Int → Int → Int} {a b : Int} (k : Q (.int (f a b)) H) : ipI f (.int a) (.int b) H Q := ⟨a, b, rfl, rfl, k⟩
theorem s_dput {td ty : TE} (k : ta σ H fun v H1 => td σ H1 fun x H2 => ty σ H2 fun y H3 => rDPut x y v H3 fun H4 => D.nx σ H4) : sDPut td ty ta D σ H := k
theorem s_var (h : σ[i]? = some (some v)) (k : Q v H) : tVar i σ H Q := ⟨v, h, k⟩
theorem s_c (k : Q v H) : tC v σ H Q := k
theorem s_op (k : ta σ H fun x H1 => tb σ H1 fun y H2 => r x y H2 Q) : tOp r ta tb σ H Q := k
theorem s_un {f : V → Hp → VK → Prop} (k : ta σ H fun x H1 => f x H1 Q) : tUn f ta σ H Q := k
theorem s_neg {f : Int → V} {n : Int} (k : Q (f n) H) : rU f (.int n) H Q := ⟨n, rfl, k⟩
theorem s_I0 {f : Int → Int → V} {a b : Int} (k : Q (f a b) H) : rI0 f (.int a) (.int b) H Q := ⟨a, b, rfl, rfl, k⟩
theorem s_I {C : Int → Int → Prop} {f : Int → Int → V} {a b : Int} (h : C a b) (k : Q (f a b) H) : rI C f (.int a) (.int b) H Q := ⟨a, b, rfl, rfl, h, k⟩
theorem s_eqI {a b : Int} (k : Q (.bl (decide (V.int a = V.int b))) H) : rEq (.int a) (.int b) H Q := ⟨rfl, k⟩
theorem s_neI {a b : Int} (k : Q (.bl (!decide (V.int a = V.int b))) H) : rNe (.int a) (.int b) H Q := ⟨rfl, k⟩
theorem s_eqB {a b : Bool} (k : Q (.bl (decide (V.bl a = V.bl b))) H) : rEq (.bl a) (.bl b) H Q := ⟨rfl, k⟩
theorem s_eqS {a b : Str} (k : Q (.bl (decide (V.str a = V.str b))) H) : rEq (.str a) (.str b) H Q := ⟨rfl, k⟩
theorem s_isN (k : Q (.bl (decide (x = .non))) H) : rIsN x .non H Q := ⟨rfl, k⟩
theorem s_notN (k : Q (.bl (!decide (x = .non))) H) : rNotN x .non H Q := ⟨rfl, k⟩
variable {Qb : Bool → Hp → Prop}
theorem s_test (k : ta σ H fun x H1 => ∃ k, x = .bl k ∧ Qb k H1) : tTest ta σ H Qb := k
theorem s_B (k : ta σ H fun x H1 => ∃ k, x = .bl k ∧ Qb k H1) : tB ta σ H Qb := k
theorem s_k {b : Bool} (k : Qb b H) : ∃ k, V.bl b = .bl k ∧ Qb k H := ⟨b, rfl, k⟩
theorem s_and (k : c σ H fun b H1 => if b = true then d σ H1 Qb else Qb false H1) : tAnd c d σ H Qb := k
theorem s_or (k : c σ H fun b H1 => if b = true then Qb true H1 else d σ H1 Qb) : tOr c d σ H Qb := k
theorem s_not (k : c σ H fun b H1 => Qb (!b) H1) : tNot c σ H Qb := k
theorem s_yes (k : Qb true H) : tYes σ H Qb := k
theorem s_andV (k : ta σ H fun x H1 => ∃ c, x = .bl c ∧ if c = true then tb σ H1 Q else Q (.bl false) H1) : tAndV ta tb σ H Q := k
theorem s_orV (k : ta σ H fun x H1 => ∃ c, x = .bl c ∧ if c = true then Q (.bl true) H1 else tb σ H1 Q) : tOrV ta tb σ H Q := k
theorem s_notV (k : ta σ H fun x H1 => ∃ c, x = .bl c ∧ Q (.bl (!c)) H1) : tNotV ta σ H Q := k
theorem s_kk {b : Bool} {R : Bool → Prop} (k : R b) : ∃ c, V.bl b = .bl c ∧ R c := ⟨b, rfl, k⟩
variable {tt : TA} {QL : List V → Hp → Prop} {b : List V → Hp → VK → Prop}
theorem s_nil (k : QL [] H) : tNil σ H QL := k
theorem s_cons (k : ta σ H fun x H1 => tt σ H1 fun xs H2 => QL (x :: xs) H2) : tCons ta tt σ H QL := k
theorem s_cb (k : tt σ H fun vs H1 => b vs H1 Q) : tCB b tt σ H Q := k
theorem s_cal {sp : Sp} (k : tt σ H fun vs H1 => sp vs H1 Q E0) : tCal sp tt σ H Q := k
theorem s_bm {rr : V → List V → Hp → VK → Prop} {T : String} (k : ta σ H fun x H1 => tyV K T x H1 ∧ tt σ H1 fun xs H2 => rr x xs H2 Q) : tBM K T rr ta tt σ H Q := k
theorem s_bm0 {rr : V → List V → Hp → VK → Prop} {T : String} (k : ta σ H fun x H1 => tyV K T x H1 ∧ rr x [] H1 Q) : tBM0 K T rr ta σ H Q := k
theorem s_lst (k : tt σ H fun xs H1 => NewL xs H1 Q) : tLst tt σ H Q := k
theorem s_tup (k : tt σ H fun xs H1 => NewT xs H1 Q) : tTup tt σ H Q := k
theorem s_sl {s : V → Option Int → Option Int → Hp → VK → Prop} {tl th : TO} (k : ta σ H fun x H1 => tl σ H1 fun lo H2 => th σ H2 fun hi H3 => s x lo hi H3 Q) : tSl s ta tl th σ H Q := k
theorem s_nopart {R : Option Int → Hp → Prop} (k : R none H) : tNoPart σ H R := k
theorem s_part {R : Option Int → Hp → Prop} (k : ta σ H fun x H1 => ∃ i, x = .int i ∧ R (some i) H1) : tPart ta σ H R := k
theorem s_i {n : Int} {R : Int → Prop} (k : R n) : ∃ i, V.int n = .int i ∧ R i := ⟨n, rfl, k⟩
theorem s_dget {td ty : TE} (k : td σ H fun x H1 => ty σ H1 fun y H2 => rDGet x y H2 Q) : tDGet td ty σ H Q := k
theorem s_din {td ty : TE} (k : ty σ H fun y H1 => td σ H1 fun x H2 => rDIn x y H2 Q) : tDIn ty td σ H Q := k
theorem s_dnin {td ty : TE} (k : ty σ H fun y H1 => td σ H1 fun x H2 => rDNin x y H2 Q) : tDNotIn ty td σ H Q := k
theorem s_dnew (k : ∀ p H', Ex H H' → H p = none → H' p = some (.dK []) → Q (.ref p) H') : tDNewK σ H Q := all_new k
theorem c_mate {e : Int} {E : XK} (k : Q (.int (mt e)) H) : sp_mate_of K [.int e] H Q E := ⟨e, rfl, k⟩
theorem c_lmate {e : Int} {E : XK} (k : Q (.int (mt e)) H) : sp_law_mate K [.int e] H Q E := ⟨e, rfl, k⟩
def Disp1 (p : Addr) (x y : V) (H : Hp) (Q : VK) : Prop := H p = some (.dK []) ∧ ∃ kvs : List (Key × V), [(x, y)] = kvs.map (fun kv => (kV kv.1, kv.2)) ∧ kvs.length ≤ 15 ∧ Q (.ref p) (upd H p (.dK (mergeK [] kvs)))
theorem s_disp1 {tk tv : TE} (k : ∀ p H', Ex H H' → H p = none → H' p = some (.dK []) → tk σ H' fun x H1 => tv σ H1 fun y H2 => Disp1 p x y H2 Q) : tDisp [(tk, tv)] σ H Q := fun p hp => k p _ (Ex.new hp) hp upd_same
theorem disp1 {p : Addr} {n : Int} (h : H p = some (.dK [])) (k : ∀ o, IsT (upd H p o) p (putT (fun _ => none) n v) 1 → Q (.ref p) (upd H p o)) : Disp1 p (.int n) v H Q := by
  refine ⟨h, [(.inl n, v)], rfl, by show 1 ≤ 15; decide, k _ ⟨⟨_, upd_same, ?_, fun w => ?_⟩⟩⟩
  · exact length_putK [] (Sum.inl n) v
  · show valV (putK [] (Sum.inl n) v) (Sum.inl w) = _
    rw [valV_put]
    unfold putT
    by_cases e : w = n
    · subst e; rw [if_pos rfl, if_pos rfl]
    · rw [if_neg (fun q => e (Sum.inl.inj q)), if_neg e]; rfl
end
end RF

/-! Loops and comprehensions, by what is walked. -/
namespace RF
open PySem PySem.Spec PyProof.Rows L2
open Evl (Ex)
section
variable {K : PySem.W.Frag} {σ : L2.St} {H H0 H1 : Hp} {Q : VK} {D : Ends} {tb : TS} {tl te : TE} {tt : TT} {ta : TA} {g : TG} {j : Nat} {a b : Addr} {ns : List Int} {xs : List V} {E : Dr}
def LoopR (g : TG) (tb : TS) (D : Ends) (J : It) (σ : L2.St) (H : Hp) : Prop := ∃ W : Nat → Nat → L2.St → Hp → Prop, (∃ m, W 0 m σ H) ∧ ∀ i m σ H, W i m σ H → (J.stop i H ∧ D.nx σ H) ∨
  (J.go i H ∧ ∃ N : L2.St → Hp → Prop, (∀ σ' H', N σ' H' → ∃ m', m' < m ∧ W (i + 1) m' σ' H') ∧ ∀ x H', J.yld i H x H' → g x σ H' fun σ2 H2 => tb { D with nx := N, ct := N, bk := D.nx } σ2 H2)
def ForL (K : PySem.W.Frag) (x : V) (g : TG) (tb : TS) (D : Ends) (σ : L2.St) (H : Hp) : Prop := ∃ a, x = .ref a ∧ (∃ xs, SqL K H a xs) ∧ LoopR g tb D (Itl K a) σ H
def ForE (K : PySem.W.Frag) (vs : List V) (g : TG) (tb : TS) (D : Ends) (σ : L2.St) (H : Hp) : Prop := ∃ a xs, vs = [.ref a] ∧ SqL K H a xs ∧ LoopR g tb D (Ite K a) σ H
def ForR1 (vs : List V) (g : TG) (tb : TS) (D : Ends) (σ : L2.St) (H : Hp) : Prop := ∃ j : Int, vs = [.int j] ∧ -(2 ^ 62) ≤ j ∧ j < 2 ^ 62 ∧ LoopR g tb D (Itr 0 j.toNat) σ H
def ForR2 (vs : List V) (g : TG) (tb : TS) (D : Ends) (σ : L2.St) (H : Hp) : Prop := ∃ i j : Int, vs = [.int i, .int j] ∧ (-(2 ^ 62) ≤ i ∧ i < 2 ^ 62 ∧ -(2 ^ 62) ≤ j ∧ j < 2 ^ 62) ∧ LoopR g tb D (Itr i (j - i).toNat) σ H
theorem s_forL (k : tl σ H fun x H1 => ForL K x g tb D σ H1) : tFor (iList K tl) g tb D σ H := k
theorem s_forE (k : ta σ H fun vs H1 => ForE K vs g tb D σ H1) : tFor (iEnum K ta) g tb D σ H := k
theorem s_forR1 (k : ta σ H fun vs H1 => ForR1 vs g tb D σ H1) : tFor (iRng1 ta) g tb D σ H := k
theorem s_forR2 (k : ta σ H fun vs H1 => ForR2 vs g tb D σ H1) : tFor (iRng2 ta) g tb D σ H := k
/-- over a list that stands -/
theorem forL (h : ∀ i σ H, Pv i σ H → SqL K H a xs) (h0 : (Pv : Nat → L2.St → Hp → Prop) 0 σ H)
    (hs : ∀ i x σ H, xs[i]? = some x → Pv i σ H → tb { D with nx := Pv (i + 1), ct := Pv (i + 1), bk := D.nx } (σ.set j (some x)) H) (hd : ∀ σ H, Pv xs.length σ H → D.nx σ H) : ForL K (.ref a) (gName j) tb D σ H :=
  ⟨a, rfl, ⟨_, h 0 σ H h0⟩, for_list (xs := xs) Pv h0 (fun i σ H _ p => h i σ H p) (fun i x σ H hx p => hs i x σ H hx p) hd⟩
theorem forI (h : IsI H0 a ns) (Pv : Nat → L2.St → Hp → Prop) (h0 : Pv 0 σ H) (he : ∀ i σ H, Pv i σ H → Ex H0 H)
    (hs : ∀ i z σ H, ns[i]? = some z → Ex H0 H → Pv i σ H → tb { D with nx := Pv (i + 1), ct := Pv (i + 1), bk := D.nx } (σ.set j (some (.int z))) H) (hd : ∀ σ H, Pv ns.length σ H → D.nx σ H) : ForL K (.ref a) (gName j) tb D σ H := by
  refine forL (xs := ns.map V.int) (fun i σ H p => (h.ex (he i σ H p)).sq) h0 (fun i x σ H hx p => ?_) (fun σ H p => hd σ H (by rw [List.length_map] at p; exact p))
  obtain ⟨z, hz, rfl⟩ := getM' hx
  exact hs i z σ H hz (he i σ H p) p
theorem forD (h : IsD H0 a E) (Pv : Nat → L2.St → Hp → Prop) (h0 : Pv 0 σ H) (he : ∀ i σ H, Pv i σ H → Ex H0 H)
    (hs : ∀ i p r σ H, E[i]? = some r → IsI H p r → IsI H0 p r → Pv i σ H → tb { D with nx := Pv (i + 1), ct := Pv (i + 1), bk := D.nx } (σ.set j (some (.ref p))) H) (hd : ∀ σ H, Pv E.length σ H → D.nx σ H) : ForL K (.ref a) (gName j) tb D σ H := by
  obtain ⟨ps, h1, h2, h3⟩ := h.ex
  refine forL (xs := ps.map V.ref) (fun i σ H p => sq (he i σ H p _ _ h1)) h0 (fun i x σ H hx p => ?_) (fun σ H p => hd σ H (by rw [List.length_map, h2] at p; exact p))
  rw [List.getElem?_map] at hx
  cases e : ps[i]? with
  | none => rw [e] at hx; cases hx
  | some q =>
    rw [e] at hx
    cases hx
    have hi : i < E.length := by rw [← h2]; exact (List.getElem?_eq_some_iff.mp e).1
    have hr : E[i]? = some E[i] := List.getElem?_eq_getElem hi
    exact hs i q E[i] σ H hr ((h3 i q _ e hr).ex (he i σ H p)) (h3 i q _ e hr) p
/-- over enumerate -/
theorem forE {i1 i2 : Nat} (h : ∀ i σ H, Pv i σ H → SqL K H a xs) (h0 : (Pv : Nat → L2.St → Hp → Prop) 0 σ H)
    (hs : ∀ i x σ H H', xs[i]? = some x → Pv i σ H → Ex H H' → tb { D with nx := Pv (i + 1), ct := Pv (i + 1), bk := D.nx } ((σ.set i1 (some (.int (i : Int)))).set i2 (some x)) H') (hd : ∀ σ H, Pv xs.length σ H → D.nx σ H) :
    ForE K [.ref a] (gTup K 2 (gCons (gName i1) (gCons (gName i2) gNil))) tb D σ H := by
  refine ⟨a, xs, rfl, h 0 σ H h0, fun i m σ H => m = xs.length - i ∧ i ≤ xs.length ∧ Pv i σ H, ⟨xs.length, by simp, Nat.zero_le _, h0⟩, ?_⟩
  rintro i m σ H ⟨rfl, hi, p⟩
  have q := h i σ H p
  by_cases hlt : i < xs.length
  · refine .inr ⟨⟨xs, xs[i], q, by simp [hlt]⟩, Pv (i + 1), fun σ' H' p' => ⟨xs.length - (i + 1), by omega, rfl, hlt, p'⟩, fun x H' y => ?_⟩
    obtain ⟨T, x0, rfl, nT, rfl, f⟩ := y
    refine ⟨T, _, rfl, .inl (.inl upd_same), rfl, _, _, rfl, _, _, rfl, rfl, ?_⟩
    exact hs i x0 σ H _ (f xs q) p (Ex.new nT)
  · have e : i = xs.length := by omega
    subst e
    exact .inl ⟨⟨xs, q, Nat.le_refl _⟩, hd σ H p⟩
theorem forEI {i1 i2 : Nat} (h : IsI H0 a ns) (Pv : Nat → L2.St → Hp → Prop) (h0 : Pv 0 σ H) (he : ∀ i σ H, Pv i σ H → Ex H0 H)
    (hs : ∀ i z σ H H', ns[i]? = some z → Ex H0 H → Pv i σ H → Ex H H' → tb { D with nx := Pv (i + 1), ct := Pv (i + 1), bk := D.nx } ((σ.set i1 (some (.int (i : Int)))).set i2 (some (.int z))) H') (hd : ∀ σ H, Pv ns.length σ H → D.nx σ H) :
    ForE K [.ref a] (gTup K 2 (gCons (gName i1) (gCons (gName i2) gNil))) tb D σ H := by
  refine forE (xs := ns.map V.int) (fun i σ H p => (h.ex (he i σ H p)).sq) h0 (fun i x σ H H' hx p e => ?_) (fun σ H p => hd σ H (by rw [List.length_map] at p; exact p))
  obtain ⟨z, hz, rfl⟩ := getM' hx
  exact hs i z σ H H' hz (he i σ H p) p e
theorem forED {i1 i2 : Nat} (h : IsD H0 a E) (Pv : Nat → L2.St → Hp → Prop) (h0 : Pv 0 σ H) (he : ∀ i σ H, Pv i σ H → Ex H0 H)
    (hs : ∀ i p r σ H H', E[i]? = some r → IsI H0 p r → Ex H0 H → Pv i σ H → Ex H H' → tb { D with nx := Pv (i + 1), ct := Pv (i + 1), bk := D.nx } ((σ.set i1 (some (.int (i : Int)))).set i2 (some (.ref p))) H') (hd : ∀ σ H, Pv E.length σ H → D.nx σ H) :
    ForE K [.ref a] (gTup K 2 (gCons (gName i1) (gCons (gName i2) gNil))) tb D σ H := by
  obtain ⟨ps, h1, h2, h3⟩ := h.ex
  refine forE (xs := ps.map V.ref) (fun i σ H p => sq (he i σ H p _ _ h1)) h0 (fun i x σ H H' hx p ee => ?_) (fun σ H p => hd σ H (by rw [List.length_map, h2] at p; exact p))
  rw [List.getElem?_map] at hx
  cases e : ps[i]? with
  | none => rw [e] at hx; cases hx
  | some q =>
    rw [e] at hx
    cases hx
    have hi : i < E.length := by rw [← h2]; exact (List.getElem?_eq_some_iff.mp e).1
    have hr : E[i]? = some E[i] := List.getElem?_eq_getElem hi
    exact hs i q E[i] σ H H' hr (h3 i q _ e hr) (he i σ H p) p ee
/-- over a range -/
theorem forR {n : Nat} (hn : n ≤ 1000000) (Pv : Nat → L2.St → Hp → Prop) (h0 : Pv 0 σ H)
    (hs : ∀ i σ H, i < n → Pv i σ H → tb { D with nx := Pv (i + 1), ct := Pv (i + 1), bk := D.nx } (σ.set j (some (.int (i : Int)))) H) (hd : ∀ σ H, Pv n σ H → D.nx σ H) : ForR1 [.int (n : Int)] (gName j) tb D σ H :=
  ⟨_, rfl, by omega, by omega, for_range (lo := 0) (n := (n : Int).toNat) Pv h0 (fun i σ' H' hi p => by
    have e0 : (0 : Int) + (i : Int) = (i : Int) := Int.zero_add _
    show tb { D with nx := Pv (i + 1), ct := Pv (i + 1), bk := D.nx } (σ'.set j (some (.int ((0 : Int) + (i : Int))))) H'
    rw [e0]
    exact hs i σ' H' (by omega) p) (fun σ H p => hd σ H (by rw [Int.toNat_natCast] at p; exact p))⟩
theorem forR2 {lo n : Nat} (hn : n ≤ 1000000) (hlo : lo ≤ 1000000) (Pv : Nat → L2.St → Hp → Prop) (h0 : Pv 0 σ H)
    (hs : ∀ i σ H, lo + i < n → Pv i σ H → tb { D with nx := Pv (i + 1), ct := Pv (i + 1), bk := D.nx } (σ.set j (some (.int ((lo + i : Nat) : Int)))) H) (hd : ∀ σ H, Pv (n - lo) σ H → D.nx σ H) : ForR2 [.int (lo : Int), .int (n : Int)] (gName j) tb D σ H :=
  ⟨_, _, rfl, ⟨by omega, by omega, by omega, by omega⟩, for_range (lo := (lo : Int)) (n := ((n : Int) - (lo : Int)).toNat) Pv h0 (fun i σ' H' hi p => by
    have e0 : (lo : Int) + (i : Int) = ((lo + i : Nat) : Int) := by omega
    show tb { D with nx := Pv (i + 1), ct := Pv (i + 1), bk := D.nx } (σ'.set j (some (.int ((lo : Int) + (i : Int))))) H'
    rw [e0]
    exact hs i σ' H' (by omega) p) (fun σ H p => hd σ H (by rw [show ((n : Int) - (lo : Int)).toNat = n - lo by omega] at p; exact p))⟩
/-- the one ahead: xs[i - 1] -/
theorem a_prev {T : List Int} {i : Nat} {Q : VK} (h : IsI H a T) (hi : i < T.length) (k : Q (.int (prv T i)) H) : rIxL K (.ref a) (.int ((i : Int) - 1)) H Q := by
  by_cases h0 : i = 0
  · subst h0
    have hg : T[T.length - 1]? = some (prv T 0) := by
      unfold prv
      rw [if_pos rfl, List.getD_eq_getElem?_getD, List.getElem?_eq_getElem (by omega)]; rfl
    have hT : T.map V.int = (T.map V.int).dropLast ++ [V.int (prv T 0)] := by
      have e1 : (T.map V.int) ≠ [] := by
        intro q; have := congrArg List.length q; rw [List.length_map] at this; simp at this; rw [this] at hi; simp at hi
      have e2 := (List.dropLast_concat_getLast e1).symm
      have e3 : (T.map V.int).getLast e1 = V.int (prv T 0) := by
        rw [List.getLast_eq_getElem]
        have := getM hg
        rw [List.getElem?_eq_getElem (by rw [List.length_map]; omega)] at this
        have := Option.some.inj this
        simp only [List.length_map]
        rw [this]
      rw [e3] at e2
      exact e2
    refine ⟨_, _, _, _, rfl, rfl, h.sq, ?_, k⟩
    show atI (T.map V.int) (((0 : Nat) : Int) - 1) = _
    rw [hT]
    exact atI_last _ _
  · have e : ((i : Int) - 1) = ((i - 1 : Nat) : Int) := by omega
    rw [e]
    refine a_ix h ?_ k
    unfold prv
    rw [if_neg h0, List.getD_eq_getElem?_getD, List.getElem?_eq_getElem (by omega)]; rfl
theorem a_seat {D : Dr} {m : Nat} {e : Int} {Q : VK} (h : IsI H a (seatsL D m)) (h0 : 0 ≤ e) (h1 : e < 2 * m) (k : Q (.int ((seat D e : Nat) : Int)) H) : rIxL K (.ref a) (.int e) H Q := by
  have ee : ((e.toNat : Nat) : Int) = e := Int.toNat_of_nonneg h0
  refine a_ixz h h0 ?_ k
  unfold seatsL
  rw [List.getElem?_map, List.getElem?_range (by omega)]
  show some ((seat D ((e.toNat : Nat) : Int) : Nat) : Int) = _
  rw [ee]
theorem len_seatsL (D : Dr) (m : Nat) : (seatsL D m).length = 2 * m := by unfold seatsL; rw [List.length_map, List.length_range]
/-! ### while -/
def WhT (W : Nat → L2.St → Hp → Prop) (m : Nat) (D : Ends) (tb : TS) (σ : L2.St) (H : Hp) : Prop := ∃ N : L2.St → Hp → Prop, (∀ σ' H', N σ' H' → ∃ m', m' < m ∧ W m' σ' H') ∧ tb { D with nx := N, ct := N, bk := D.nx } σ H
theorem whT {W : Nat → L2.St → Hp → Prop} {m : Nat} (k : tb { D with nx := fun σ' H' => ∃ m', m' < m ∧ W m' σ' H', ct := fun σ' H' => ∃ m', m' < m ∧ W m' σ' H', bk := D.nx } σ H) : WhT W m D tb σ H := ⟨_, fun _ _ q => q, k⟩
theorem whileW (W : Nat → L2.St → Hp → Prop) (m0 : Nat) (h0 : W m0 σ H) (hs : ∀ m σ H, W m σ H → tt σ H fun b H1 => if b = true then WhT W m D tb σ H1 else D.nx σ H1) : tWhile tt tb D σ H := ⟨W, ⟨m0, h0⟩, hs⟩
/-! ### comprehensions -/
def LcJ (g : TG) (tt : TT) (te : TE) (vs : List Nat) (J : It) (σ : L2.St) (H1 : Hp) (Q : VK) : Prop := ∀ D, H1 D = none → ∃ W : Nat → Nat → Hp → Prop, (∃ m, W 0 m (upd H1 D (.lst []))) ∧ ∀ i m H, W i m H →
  (J.stop i H ∧ Q (.ref D) H) ∨ (J.go i H ∧ ∃ Nx : Hp → Prop, (∀ H', Nx H' → ∃ m', m' < m ∧ W (i + 1) m' H') ∧ ∀ x H', J.yld i H x H' → g x (wipe σ vs) H' fun σ2 H2 => wipe σ2 vs = wipe σ vs ∧ tt σ2 H2 fun b H3 =>
    if b = true then te σ2 H3 fun y H4 => ∃ acc, H4 D = some (.lst acc) ∧ acc.length < sizeLine ∧ Nx (upd H4 D (.lst (acc ++ [y]))) else Nx H3)
def LcL (K : PySem.W.Frag) (x : V) (g : TG) (tt : TT) (te : TE) (vs : List Nat) (σ : L2.St) (H : Hp) (Q : VK) : Prop := ∃ a, x = .ref a ∧ (∃ xs, SqL K H a xs) ∧ LcJ g tt te vs (Itl K a) σ H Q
def LcR (ws : List V) (g : TG) (tt : TT) (te : TE) (vs : List Nat) (σ : L2.St) (H : Hp) (Q : VK) : Prop := ∃ j : Int, ws = [.int j] ∧ -(2 ^ 62) ≤ j ∧ j < 2 ^ 62 ∧ LcJ g tt te vs (Itr 0 j.toNat) σ H Q
def LcV (K : PySem.W.Frag) (ws : List V) (g : TG) (tt : TT) (te : TE) (vs : List Nat) (σ : L2.St) (H : Hp) (Q : VK) : Prop := ∃ (a : Addr) (xs : List V), ws = [.ref a] ∧ SqL K H a xs ∧ LcJ g tt te vs (Itv K a xs.length) σ H Q
variable {vs : List Nat}
theorem s_lcL (k : tl σ H fun x H1 => LcL K x g tt te vs σ H1 Q) : tLc (iList K tl) g tt te vs σ H Q := k
theorem s_lcR (k : ta σ H fun ws H1 => LcR ws g tt te vs σ H1 Q) : tLc (iRng1 ta) g tt te vs σ H Q := k
theorem s_lcV (k : ta σ H fun ws H1 => LcV K ws g tt te vs σ H1 Q) : tLc (iRev K ta) g tt te vs σ H Q := k
theorem filt {α : Type} (l : List α) : l.filter (fun _ => true) = l := List.filter_eq_self.mpr fun _ _ => rfl
theorem wipe1 (σ : L2.St) (j : Nat) (x : Option V) : wipe ((wipe σ [j]).set j x) [j] = wipe σ [j] := by
  show ((σ.set j none).set j x).set j none = σ.set j none
  rw [List.set_set, List.set_set]
theorem getD_map {α : Type} (l : List α) (d : α) : (List.range l.length).map (fun i => l.getD i d) = l := by
  apply List.ext_getElem
  · rw [List.length_map, List.length_range]
  · intro i h1 h2
    rw [List.getElem_map, List.getElem_range, List.getD_eq_getElem?_getD, List.getElem?_eq_getElem h2]; rfl
theorem given_by {α : Type} (l : List α) (d : α) (p : α → Bool) (f : α → Int) : Evl.given l.length (fun i => p (l.getD i d)) (fun i => .int (f (l.getD i d))) = ((l.filter p).map f).map V.int := by
  have h := getD_map l d
  conv => rhs; rw [← h]
  rw [List.filter_map, List.map_map, List.map_map]
  rfl
theorem getD_some {α : Type} {l : List α} {d x : α} {i : Nat} (h : l[i]? = some x) : l.getD i d = x := by rw [List.getD_eq_getElem?_getD, h]; rfl
abbrev stJ (σ : L2.St) (j : Nat) (v : V) : L2.St := (wipe σ [j]).set j (some v)
theorem lcI (h : IsI H a ns) (hz : ns.length ≤ 40000) (p : Int → Bool) (f : Int → Int)
    (ht : ∀ z ∈ ns, ∀ H1, Ex H H1 → ∀ R : Bool → Hp → Prop, (∀ H2, Ex H1 H2 → R (p z) H2) → tt (stJ σ j (.int z)) H1 R)
    (he : ∀ z ∈ ns, p z = true → ∀ H1, Ex H H1 → ∀ R : VK, (∀ H2, Ex H1 H2 → R (.int (f z)) H2) → te (stJ σ j (.int z)) H1 R)
    (k : ∀ q H', Ex H H' → H q = none → IsI H' q ((ns.filter p).map f) → Q (.ref q) H') : LcL K (.ref a) (gName j) tt te [j] σ H Q := by
  have q := Evl.el_lcL (K := K) (σ := σ) (H := H) (a := a) (xs := ns.map V.int) (tl := tC (.ref a)) (j := j) (vs := [j]) (t := tt) (te := te) (fun i => p (ns.getD i 0)) (fun i => .int (f (ns.getD i 0)))
    Evl.ev_c h.sq (by rw [List.length_map]; exact hz) (fun x => wipe1 σ j (some x))
    (fun i x H1 e hx H2 e2 R r => by
      obtain ⟨z, hz, rfl⟩ := getM' hx
      rw [getD_some hz] at r
      exact ht z (List.mem_of_getElem? hz) H2 (e.trans e2) R r)
    (fun i x H1 e hx hp H2 e2 R r => by
      obtain ⟨z, hz, rfl⟩ := getM' hx
      rw [getD_some hz] at r hp
      exact he z (List.mem_of_getElem? hz) hp H2 (e.trans e2) R r)
  refine q H (Ex.refl H) Q fun q' H2 nq e2 h2 => k q' H2 e2 nq ?_
  rw [List.length_map, given_by] at h2
  exact h2
theorem lcI1 (h : IsI H a ns) (hz : ns.length ≤ 40000) (f : Int → Int) (he : ∀ z ∈ ns, ∀ H1, Ex H H1 → ∀ R : VK, (∀ H2, Ex H1 H2 → R (.int (f z)) H2) → te (stJ σ j (.int z)) H1 R)
    (k : ∀ q H', Ex H H' → H q = none → IsI H' q (ns.map f) → Q (.ref q) H') : LcL K (.ref a) (gName j) tYes te [j] σ H Q :=
  lcI h hz (fun _ => true) f (fun z hz H1 e R r => r H1 (Ex.refl H1)) (fun z hz _ H1 e R r => he z hz H1 e R r) (fun q H' e nq hq => k q H' e nq (by rw [filt] at hq; exact hq))
theorem lcR (n : Nat) (hz : n ≤ 40000) (p : Nat → Bool) (f : Nat → Int)
    (ht : ∀ i, i < n → ∀ H1, Ex H H1 → ∀ R : Bool → Hp → Prop, (∀ H2, Ex H1 H2 → R (p i) H2) → tt (stJ σ j (.int (i : Int))) H1 R)
    (he : ∀ i, i < n → p i = true → ∀ H1, Ex H H1 → ∀ R : VK, (∀ H2, Ex H1 H2 → R (.int (f i)) H2) → te (stJ σ j (.int (i : Int))) H1 R)
    (k : ∀ q H', Ex H H' → H q = none → IsI H' q (((List.range n).filter p).map f) → Q (.ref q) H') : LcR [.int (n : Int)] (gName j) tt te [j] σ H Q := by
  have q := Evl.el_lcR1 (σ := σ) (H := H) (ta := tCons (tC (.int (n : Int))) tNil) (n := (n : Int)) (j := j) (vs := [j]) (t := tt) (te := te) p (fun i => .int (f i))
    (Evl.ea_cons Evl.ev_c Evl.ea_nil) (by omega) (fun x => wipe1 σ j (some x))
    (fun i H1 e hi H2 e2 R r => ht i (by omega) H2 (e.trans e2) R r)
    (fun i H1 e hi hp H2 e2 R r => he i (by omega) hp H2 (e.trans e2) R r)
  refine q H (Ex.refl H) Q fun q' H2 nq e2 h2 => k q' H2 e2 nq ?_
  rw [Int.toNat_natCast] at h2
  unfold IsI
  rw [h2]; unfold Evl.given; rw [List.map_map]; rfl
theorem lcR1 (n : Nat) (hz : n ≤ 40000) (f : Nat → Int)
    (he : ∀ i, i < n → ∀ H1, Ex H H1 → ∀ R : VK, (∀ H2, Ex H1 H2 → R (.int (f i)) H2) → te (stJ σ j (.int (i : Int))) H1 R)
    (k : ∀ q H', Ex H H' → H q = none → IsI H' q ((List.range n).map f) → Q (.ref q) H') : LcR [.int (n : Int)] (gName j) tYes te [j] σ H Q :=
  lcR n hz (fun _ => true) f (fun i hi H1 e R r => r H1 (Ex.refl H1)) (fun i hi _ H1 e R r => he i hi H1 e R r) (fun q H' e nq hq => k q H' e nq (by rw [filt] at hq; exact hq))
/-- over the rows, ints told -/
theorem lcD (h : IsD H a E) (hz : E.length ≤ 40000) (f : List Int → Int)
    (he : ∀ r ∈ E, ∀ p H1, IsI H1 p r → Ex H H1 → ∀ R : VK, (∀ H2, Ex H1 H2 → R (.int (f r)) H2) → te (stJ σ j (.ref p)) H1 R)
    (k : ∀ q H', Ex H H' → H q = none → IsI H' q (E.map f) → Q (.ref q) H') : LcL K (.ref a) (gName j) tYes te [j] σ H Q := by
  obtain ⟨ps, h1, h2, h3⟩ := h.ex
  have q := Evl.el_lcL (K := K) (σ := σ) (H := H) (a := a) (xs := ps.map V.ref) (tl := tC (.ref a)) (j := j) (vs := [j]) (t := tYes) (te := te) (fun _ => true) (fun i => .int (f (E.getD i [])))
    Evl.ev_c (sq h1) (by rw [List.length_map, h2]; exact hz) (fun x => wipe1 σ j (some x))
    (fun i x H1 e hx H2 e2 R r => r H2 (Ex.refl H2))
    (fun i x H1 e hx hp H2 e2 R r => by
      rw [List.getElem?_map] at hx
      cases e' : ps[i]? with
      | none => rw [e'] at hx; cases hx
      | some q =>
        rw [e'] at hx
        cases hx
        have hi : i < E.length := by rw [← h2]; exact (List.getElem?_eq_some_iff.mp e').1
        have hr : E[i]? = some E[i] := List.getElem?_eq_getElem hi
        rw [getD_some hr] at r
        exact he _ (List.mem_of_getElem? hr) q H2 ((h3 i q _ e' hr).ex (e.trans e2)) (e.trans e2) R r)
  refine q H (Ex.refl H) Q fun q' H2 nq e2 hq => k q' H2 e2 nq ?_
  rw [List.length_map, h2, given_by E [] (fun _ => true) f, filt] at hq
  exact hq
/-- over the rows, new lists of ints told -/
theorem lcDDs (h : IsD H a E) (hz : E.length ≤ 40000) (f : List Int → List Int)
    (he : ∀ r ∈ E, ∀ p H1, IsI H1 p r → Ex H H1 → ∀ R : VK, (∀ q H2, Ex H1 H2 → H1 q = none → IsI H2 q (f r) → R (.ref q) H2) → te (stJ σ j (.ref p)) H1 R)
    (k : ∀ q H' qs, Ex H H' → H q = none → IsDs H' q qs (E.map f) → (∀ p ∈ qs, H p = none) → Q (.ref q) H') : LcL K (.ref a) (gName j) tYes te [j] σ H Q := by
  obtain ⟨ps, h1, h2, h3⟩ := h.ex
  refine ⟨a, rfl, ⟨_, sq h1⟩, fun Dl hD => ?_⟩
  refine lc_list (xs := ps.map V.ref) (fun i H' => Ex H H' ∧ ∃ qs : List Addr, H' Dl = some (.lst (qs.map V.ref)) ∧ qs.length = i ∧ (∀ (m : Nat) (q : Addr) (r : List Int), qs[m]? = some q → E[m]? = some r → IsI H' q (f r)) ∧ (∀ q ∈ qs, q ≠ Dl ∧ H q = none ∧ ∃ o, H' q = some o) ∧ qs.Nodup)
    ⟨Ex.new hD, [], upd_same, rfl, (fun m q r hq => by simp at hq), (fun q hq => by simp at hq), List.nodup_nil⟩ (fun i H' _ hp => sq (hp.1 _ _ h1)) (fun i x H' hx hp => ?_) (fun H' hp => ?_)
  · obtain ⟨e, qs, hq1, hq2, hq3, hq4, hq5⟩ := hp
    rw [List.getElem?_map] at hx
    cases e' : ps[i]? with
    | none => rw [e'] at hx; cases hx
    | some p =>
      rw [e'] at hx
      cases hx
      have hi : i < E.length := by rw [← h2]; exact (List.getElem?_eq_some_iff.mp e').1
      have hr : E[i]? = some E[i] := List.getElem?_eq_getElem hi
      refine ⟨wipe1 σ j _, ?_⟩
      show te _ _ _
      refine he _ (List.mem_of_getElem? hr) p H' ((h3 i p _ e' hr).ex e) e _ fun q H2 e2 nq hqr => ⟨_, e2 _ _ hq1, by rw [List.length_map, hq2]; exact sz5' (by omega), ?_⟩
      have nD : q ≠ Dl := by rintro rfl; rw [nq] at hq1; cases hq1
      have nqs : q ∉ qs := fun hm => by obtain ⟨_, _, o, ho⟩ := hq4 q hm; rw [ho] at nq; cases nq
      have keep : ∀ s o, s ≠ Dl → H2 s = some o → (upd H2 Dl (.lst (qs.map V.ref ++ [.ref q]))) s = some o := fun s o hs ho => by rw [upd_ne hs]; exact ho
      refine ⟨ex_mut (e.trans e2) hD, qs ++ [q], by rw [List.map_append]; exact upd_same, by rw [List.length_append, hq2]; rfl, fun m q' r' hm hr' => ?_, fun s hs => ?_, List.nodup_append.mpr ⟨hq5, by simp, fun x hx y hy z => nqs (by rw [List.mem_singleton.mp hy] at z; exact z ▸ hx)⟩⟩
      · by_cases hmi : m < qs.length
        · rw [List.getElem?_append_left hmi] at hm
          exact keep _ _ (hq4 q' (List.mem_of_getElem? hm)).1 ((hq3 m q' r' hm hr').ex e2)
        · rw [List.getElem?_append_right (by omega)] at hm
          have hm0 : m - qs.length = 0 := by
            have := (List.getElem?_eq_some_iff.mp hm).1
            simp at this; omega
          rw [hm0] at hm
          have e3 : q = q' := Option.some.inj hm
          subst e3
          have e4 : m = i := by omega
          subst e4
          rw [hr] at hr'
          cases hr'
          exact keep _ _ nD hqr
      · rcases List.mem_append.mp hs with hs | hs
        · obtain ⟨g1, g2, o, g3⟩ := hq4 s hs
          exact ⟨g1, g2, o, keep _ _ g1 (e2 _ _ g3)⟩
        · rw [List.mem_singleton.mp hs]
          exact ⟨nD, ex_back e nq, _, keep _ _ nD hqr⟩
  · obtain ⟨e, qs, hq1, hq2, hq3, hq4, hq5⟩ := hp
    rw [List.length_map, h2] at hq2
    refine k Dl H' qs e hD ⟨hq1, by rw [List.length_map]; exact hq2, fun m q r hq hr => ?_, hq5⟩ fun q hq => (hq4 q hq).2.1
    rw [List.getElem?_map] at hr
    cases e' : E[m]? with
    | none => rw [e'] at hr; cases hr
    | some r0 =>
      rw [e'] at hr
      cases hr
      exact hq3 m q r0 hq e'
theorem lcDD (h : IsD H a E) (hz : E.length ≤ 40000) (f : List Int → List Int)
    (he : ∀ r ∈ E, ∀ p H1, IsI H1 p r → Ex H H1 → ∀ R : VK, (∀ q H2, Ex H1 H2 → H1 q = none → IsI H2 q (f r) → R (.ref q) H2) → te (stJ σ j (.ref p)) H1 R)
    (k : ∀ q H', Ex H H' → H q = none → IsD H' q (E.map f) → Q (.ref q) H') : LcL K (.ref a) (gName j) tYes te [j] σ H Q :=
  lcDDs h hz f he fun q H' qs e nq hq _ => k q H' e nq ⟨⟨qs, hq.l, hq.n, hq.r⟩⟩
/-- over reversed(xs) -/
theorem lcV1 (h : IsI H a ns) (hz : ns.length ≤ 40000) (f : Int → Int) (he : ∀ z ∈ ns, ∀ H1, Ex H H1 → ∀ R : VK, (∀ H2, Ex H1 H2 → R (.int (f z)) H2) → te (stJ σ j (.int z)) H1 R)
    (k : ∀ q H', Ex H H' → H q = none → IsI H' q (ns.reverse.map f) → Q (.ref q) H') : LcV K [.ref a] (gName j) tYes te [j] σ H Q := by
  refine ⟨a, ns.map V.int, rfl, h.sq, fun Dl hD => ?_⟩
  refine ⟨fun i m H' => m = ns.length - i ∧ i ≤ ns.length ∧ Ex H H' ∧ IsI H' Dl ((ns.reverse.take i).map f), ⟨_, rfl, Nat.zero_le _, Ex.new hD, upd_same⟩, ?_⟩
  rintro i m H' ⟨rfl, hi, e, hl⟩
  have hsq : SqL K H' a (ns.map V.int) := (h.ex e).sq
  rw [List.length_map]
  by_cases hlt : i < ns.length
  · have hr : ns[ns.length - 1 - i]? = some ns[ns.length - 1 - i] := List.getElem?_eq_getElem (by omega)
    have hrev : ns.reverse[i]? = some ns[ns.length - 1 - i] := by rw [List.getElem?_reverse hlt]; exact hr
    refine .inr ⟨⟨by first | exact hlt | (rw [List.length_map]; exact hlt), _, _, hsq, getM hr⟩, fun H2 => ns.length - (i + 1) = ns.length - (i + 1) ∧ i + 1 ≤ ns.length ∧ Ex H H2 ∧ IsI H2 Dl ((ns.reverse.take (i + 1)).map f), fun H2 p => ⟨_, by omega, p⟩, fun x H2 y => ?_⟩
    obtain ⟨rfl, fx⟩ := y
    have ex := fx _ hsq
    rw [getM hr] at ex
    cases ex
    refine ⟨wipe1 σ j _, ?_⟩
    show te _ _ _
    refine he _ (List.mem_of_getElem? hr) H2 e _ fun H3 e3 => ⟨_, e3 _ _ hl, by rw [List.length_map, List.length_map, List.length_take]; exact sz5' (by omega), rfl, by omega, ex_mut (e.trans e3) hD, ?_⟩
    show (upd H3 Dl _) Dl = _
    rw [upd_same, List.take_add_one, hrev, List.map_append, List.map_append]; rfl
  · have ei : i = ns.length := by omega
    subst ei
    refine .inl ⟨by first | exact Nat.le_refl _ | (show (ns.map V.int).length ≤ _; rw [List.length_map]; exact Nat.le_refl _), k Dl H' e hD ?_⟩
    rw [List.take_of_length_le (by rw [List.length_reverse]; exact Nat.le_refl _)] at hl
    exact hl
/-! ### a list of lists, changed -/
theorem isD_ne {r : List Int} {q : Addr} (h : IsD H a E) (hE : E ≠ []) (hq : IsI H q r) : q ≠ a := by
  rintro rfl
  obtain ⟨ps, h1, h2, _⟩ := h.ex
  have := h1.symm.trans hq
  have e : ps.map V.ref = r.map V.int := by injection (Option.some.inj this)
  cases ps with
  | nil => exact hE (List.length_eq_zero_iff.mp (by rw [← h2]; rfl))
  | cons p ps =>
    cases r with
    | nil => cases e
    | cons z r => rw [List.map_cons, List.map_cons] at e; injection e with e1 _; cases e1
theorem isD_upd {r : List Int} {q : Addr} {o : HO} {i : Nat} (h : IsD H a E) (hE : E ≠ []) (hq : IsI (upd H a o) q r) (ho : ∀ ps : List Addr, H a = some (.lst (ps.map V.ref)) → o = .lst ((ps.set i q).map V.ref)) : IsD (upd H a o) a (E.set i r) := by
  obtain ⟨ps, h1, h2, h3⟩ := h.ex
  have ho := ho ps h1
  refine ⟨⟨ps.set i q, by rw [upd_same, ho], by rw [List.length_set, List.length_set, h2], fun j p s hp hs => ?_⟩⟩
  by_cases hji : j = i
  · subst hji
    have hj : j < ps.length := by have := (List.getElem?_eq_some_iff.mp hp).1; rw [List.length_set] at this; exact this
    rw [List.getElem?_set_self hj] at hp
    rw [List.getElem?_set_self (by omega)] at hs
    cases hp; cases hs
    exact hq
  · rw [List.getElem?_set_ne (fun e => hji e.symm)] at hp hs
    have hr := h3 j p s hp hs
    show (upd H a o) p = _
    rw [upd_ne (isD_ne h hE hr)]
    exact hr
/-- rows[i] = a list -/
theorem a_setD {r : List Int} {q : Addr} {i : Nat} {R : Hp → Prop} (h : IsD H a E) (hi : i < E.length) (hq : IsI H q r) (k : ∀ o, IsD (upd H a o) a (E.set i r) → R (upd H a o)) : rSetL (.ref a) (.int (i : Int)) (.ref q) H R := by
  have hE : E ≠ [] := by rintro rfl; exact absurd hi (Nat.not_lt_zero _)
  obtain ⟨ps, h1, h2, h3⟩ := h.ex
  refine ⟨_, _, _, i, rfl, rfl, h1, Evl.ixN_nat (by rw [List.length_map]; omega), k _ (isD_upd (q := q) h hE ?_ fun qs hqs => ?_)⟩
  · show (upd H a _) q = _
    rw [upd_ne (isD_ne h hE hq)]; exact hq
  · have : HO.lst (ps.map V.ref) = HO.lst (qs.map V.ref) := Option.some.inj (h1.symm.trans hqs)
    have e : ps.map V.ref = qs.map V.ref := by injection this
    rw [List.map_set, e]
/-- rows.append(a list) -/
theorem a_appD' {r : List Int} {q : Addr} {Q : VK} (h : IsD H a E) (hne : q ≠ a) (hl : E.length < 1000000) (hq : IsI H q r) (k : ∀ o, IsD (upd H a o) a (E ++ [r]) → Q .non (upd H a o)) : rAppend (.ref a) [.ref q] H Q := by
  obtain ⟨ps, h1, h2, h3⟩ := h.ex
  refine ⟨_, _, _, rfl, rfl, h1, by rw [List.length_map]; exact sz5' (by omega), k _ ⟨⟨ps ++ [q], by rw [upd_same, List.map_append]; rfl, by rw [List.length_append, List.length_append, h2]; rfl, fun j p s hp hs => ?_⟩⟩⟩
  by_cases hj : j < ps.length
  · rw [List.getElem?_append_left hj] at hp
    rw [List.getElem?_append_left (by omega)] at hs
    have hr := h3 j p s hp hs
    show (upd H a _) p = _
    rw [upd_ne (isD_ne h (by rintro rfl; rw [show ([] : Dr).length = 0 from rfl] at h2; omega) hr)]
    exact hr
  · have hj0 : j - ps.length = 0 := by
      have := (List.getElem?_eq_some_iff.mp hp).1
      rw [List.length_append, List.length_singleton] at this; omega
    rw [List.getElem?_append_right (by omega), hj0] at hp
    rw [List.getElem?_append_right (by omega), ← h2, hj0] at hs
    have e1 : q = p := Option.some.inj hp
    have e2 : r = s := Option.some.inj hs
    subst e1 e2
    show (upd H a _) q = _
    rw [upd_ne hne]; exact hq
theorem a_appD {r : List Int} {q : Addr} {Q : VK} (h : IsD H a E) (hE : E ≠ []) (hl : E.length < 1000000) (hq : IsI H q r) (k : ∀ o, IsD (upd H a o) a (E ++ [r]) → Q .non (upd H a o)) : rAppend (.ref a) [.ref q] H Q := a_appD' h (isD_ne h hE hq) hl hq k
theorem isD_nil (h : H a = some (.lst [])) : IsD H a [] := ⟨⟨[], h, rfl, fun i p r hp => by simp at hp⟩⟩
theorem IsI.nilD (h : IsI H a []) : IsD H a [] := isD_nil h
/-- rows[i] -/
theorem a_ixD {i : Nat} {r : List Int} {Q : VK} (h : IsD H a E) (hi : E[i]? = some r) (k : ∀ p, IsI H p r → Q (.ref p) H) : rIxL K (.ref a) (.int (i : Int)) H Q := by
  obtain ⟨ps, h1, h2, h3⟩ := h.ex
  have hil : i < ps.length := by have := (List.getElem?_eq_some_iff.mp hi).1; omega
  have hp : ps[i]? = some ps[i] := List.getElem?_eq_getElem hil
  exact ⟨_, _, _, _, rfl, rfl, sq h1, atI_nat (by rw [List.getElem?_map, hp]; rfl), k _ (h3 i _ r hp hi)⟩
theorem a_lenD {Q : VK} (h : IsD H a E) (k : Q (.int (E.length : Nat)) H) : bLen K [.ref a] H Q := by
  obtain ⟨ps, h1, h2, h3⟩ := h.ex
  exact ⟨_, _, rfl, .inl (sq h1), by rw [List.length_map, h2]; exact k⟩
theorem tylD (h : IsD H a E) : tyV K "list" (.ref a) H := by
  obtain ⟨ps, h1, _⟩ := h.ex
  exact tyl h1
/-- rows + rows -/
theorem a_catD {F : Dr} {Q : VK} (h : IsD H a E) (h' : IsD H b F) (hl : E.length + F.length ≤ 1000000) (k : ∀ p H', Ex H H' → H p = none → IsD H' p (E ++ F) → Q (.ref p) H') : rCat (.ref a) (.ref b) H Q := by
  obtain ⟨ps, h1, h2, h3⟩ := h.ex
  obtain ⟨qs, g1, g2, g3⟩ := h'.ex
  refine ⟨_, _, _, _, rfl, rfl, h1, g1, by rw [List.length_map, List.length_map, h2, g2]; exact sz5 hl, all_new fun p H' e np hp => k p H' e np ⟨⟨ps ++ qs, by rw [List.map_append]; exact hp, by rw [List.length_append, List.length_append, h2, g2], fun j q r hq hr => ?_⟩⟩⟩
  by_cases hj : j < ps.length
  · rw [List.getElem?_append_left hj] at hq
    rw [List.getElem?_append_left (by omega)] at hr
    exact (h3 j q r hq hr).ex e
  · rw [List.getElem?_append_right (by omega)] at hq
    rw [List.getElem?_append_right (by omega), ← h2] at hr
    exact (g3 _ q r hq hr).ex e
/-- over the rows, a new empty list for some of them -/
theorem lcE (h : IsD H a E) (hz : E.length ≤ 40000) (c : List Int → Bool)
    (ht : ∀ r ∈ E, ∀ p H1, IsI H1 p r → Ex H H1 → ∀ R : Bool → Hp → Prop, (∀ H2, Ex H1 H2 → R (c r) H2) → tt (stJ σ j (.ref p)) H1 R)
    (he : ∀ r ∈ E, ∀ p H1, IsI H1 p r → Ex H H1 → ∀ R : VK, (∀ q H2, Ex H1 H2 → H1 q = none → IsI H2 q [] → R (.ref q) H2) → te (stJ σ j (.ref p)) H1 R)
    (k : ∀ q H' n, Ex H H' → H q = none → IsD H' q (List.replicate n []) → n ≤ E.length → Q (.ref q) H') : LcL K (.ref a) (gName j) tt te [j] σ H Q := by
  obtain ⟨ps, h1, h2, h3⟩ := h.ex
  refine ⟨a, rfl, ⟨_, sq h1⟩, fun Dl hD => ?_⟩
  refine lc_list (xs := ps.map V.ref) (fun i H' => Ex H H' ∧ ∃ qs : List Addr, H' Dl = some (.lst (qs.map V.ref)) ∧ qs.length ≤ i ∧ ∀ q ∈ qs, q ≠ Dl ∧ IsI H' q [])
    ⟨Ex.new hD, [], upd_same, Nat.le_refl 0, fun q hq => nomatch hq⟩ (fun i H' _ hp => sq (hp.1 _ _ h1)) (fun i x H' hx hp => ?_) (fun H' hp => ?_)
  · obtain ⟨e, qs, hq1, hq2, hq3⟩ := hp
    rw [List.getElem?_map] at hx
    cases e' : ps[i]? with
    | none => rw [e'] at hx; cases hx
    | some p =>
      rw [e'] at hx
      cases hx
      have hi : i < E.length := by rw [← h2]; exact (List.getElem?_eq_some_iff.mp e').1
      have hr : E[i]? = some E[i] := List.getElem?_eq_getElem hi
      have hm := List.mem_of_getElem? hr
      have hp := (h3 i p _ e' hr).ex e
      refine ⟨wipe1 σ j _, ht _ hm p H' hp e _ fun H2 e2 => ?_⟩
      cases hc : c E[i] with
      | false =>
        rw [if_neg (by decide)]
        exact ⟨e.trans e2, qs, e2 _ _ hq1, by omega, fun q hq => ⟨(hq3 q hq).1, (hq3 q hq).2.ex e2⟩⟩
      | true =>
        rw [if_pos rfl]
        refine he _ hm p H2 (hp.ex e2) (e.trans e2) _ fun q H3 e3 nq hqr => ⟨_, e3 _ _ (e2 _ _ hq1), by rw [List.length_map]; exact sz5' (by omega), ex_mut ((e.trans e2).trans e3) hD, qs ++ [q], by rw [List.map_append]; exact upd_same, by rw [List.length_append, List.length_singleton]; omega, fun s hs => ?_⟩
        have nD : q ≠ Dl := by rintro rfl; rw [e2 _ _ hq1] at nq; cases nq
        have old : s ≠ Dl ∧ IsI H3 s [] := by
          rcases List.mem_append.mp hs with hs | hs
          · exact ⟨(hq3 s hs).1, ((hq3 s hs).2.ex e2).ex e3⟩
          · rw [List.mem_singleton.mp hs]; exact ⟨nD, hqr⟩
        refine ⟨old.1, ?_⟩
        show (upd H3 Dl _) s = _
        rw [upd_ne old.1]
        exact old.2
  · obtain ⟨e, qs, hq1, hq2, hq3⟩ := hp
    rw [List.length_map, h2] at hq2
    refine k Dl H' qs.length e hD ⟨⟨qs, hq1, by rw [List.length_replicate], fun m q r hq hr => ?_⟩⟩ hq2
    have : r = [] := List.eq_of_mem_replicate (List.mem_of_getElem? hr)
    rw [this]
    exact (hq3 q (List.mem_of_getElem? hq)).2
end
end RF

/-! A list of lists by its addresses, changed row by row. -/
namespace RF
open PySem PySem.Spec PyProof.Rows L2
open Evl (Ex)
section
variable {K : PySem.W.Frag} {H H' H0 : Hp} {a b p q : Addr} {ps : List Addr} {D : Dr} {r : List Int} {Q : VK} {j : Nat} {z : Int} {o : HO}
theorem ref_inj : ∀ {ps qs : List Addr}, ps.map V.ref = qs.map V.ref → ps = qs
  | [], [], _ => rfl
  | [], _ :: _, h => by cases h
  | _ :: _, [], h => by cases h
  | p :: ps, q :: qs, h => by
    rw [List.map_cons, List.map_cons] at h
    injection h with h1 h2
    rw [ref_inj h2]
    congr 1
    injection h1
theorem IsDs.toD (h : IsDs H a ps D) : IsD H a D := ⟨⟨ps, h.l, h.n, h.r⟩⟩
theorem IsDs.ex' (h : IsDs H a ps D) (e : Ex H H') : IsDs H' a ps D := ⟨e _ _ h.l, h.n, fun i p r hp hr => (h.r i p r hp hr).ex e, h.nd⟩
theorem IsDs.row (h : IsDs H a ps D) (hp : ps[j]? = some p) : IsI H p (D.getD j []) := by
  have hj : j < D.length := by rw [← h.n]; exact (List.getElem?_eq_some_iff.mp hp).1
  exact h.r j p _ hp (by rw [List.getD_eq_getElem?_getD, List.getElem?_eq_getElem hj]; rfl)
theorem IsDs.mem (h : IsDs H a ps D) (hp : p ∈ ps) : ∃ o, H p = some o := by
  obtain ⟨j, hj⟩ := List.mem_iff_getElem?.mp hp
  exact ⟨_, h.row hj⟩
theorem IsDs.ne (h : IsDs H a ps D) (hp : p ∈ ps) : p ≠ a := by
  obtain ⟨j, hj⟩ := List.mem_iff_getElem?.mp hp
  have hE : D ≠ [] := by
    rintro rfl
    have := (List.getElem?_eq_some_iff.mp hj).1
    rw [h.n] at this
    exact absurd this (Nat.not_lt_zero _)
  exact isD_ne h.toD hE (h.row hj)
theorem ds_new (h : H a = some (.lst [])) : IsDs H a [] [] := ⟨h, rfl, fun i p r hp => by simp at hp, List.nodup_nil⟩
/-- what is changed is none of these -/
theorem IsDs.other (h : IsDs H a ps D) (ha : b ≠ a) (hp : b ∉ ps) : IsDs (upd H b o) a ps D :=
  ⟨by rw [upd_ne ha.symm]; exact h.l, h.n, fun i p r hpi hr => by
    show (upd H b o) p = _
    rw [upd_ne (by rintro rfl; exact hp (List.mem_of_getElem? hpi))]
    exact h.r i p r hpi hr, h.nd⟩
theorem ds_app (h : IsDs H a ps D) (hq : IsI H q r) (hn : q ∉ ps) (ha : q ≠ a) (hl : D.length < 1000000) (k : ∀ o, IsDs (upd H a o) a (ps ++ [q]) (D ++ [r]) → Q .non (upd H a o)) : rAppend (.ref a) [.ref q] H Q := by
  refine ⟨_, _, _, rfl, rfl, h.l, by rw [List.length_map, h.n]; exact sz5' hl, k _ ⟨by rw [upd_same, List.map_append]; rfl, by rw [List.length_append, List.length_append, h.n]; rfl, fun i p s hp hs => ?_, List.nodup_append.mpr ⟨h.nd, by simp, fun x hx y hy e => by rw [List.mem_singleton.mp hy] at e; exact hn (e ▸ hx)⟩⟩⟩
  by_cases hi : i < ps.length
  · rw [List.getElem?_append_left hi] at hp
    rw [List.getElem?_append_left (by rw [← h.n]; exact hi)] at hs
    show (upd H a _) p = _
    rw [upd_ne (h.ne (List.mem_of_getElem? hp))]
    exact h.r i p s hp hs
  · have hi0 : i - ps.length = 0 := by
      have := (List.getElem?_eq_some_iff.mp hp).1
      rw [List.length_append, List.length_singleton] at this; omega
    rw [List.getElem?_append_right (by omega), hi0] at hp
    rw [List.getElem?_append_right (by rw [← h.n]; omega), ← h.n, hi0] at hs
    have e1 : q = p := Option.some.inj hp
    have e2 : r = s := Option.some.inj hs
    subst e1 e2
    show (upd H a _) q = _
    rw [upd_ne ha]; exact hq
/-- one row is another one now -/
theorem ds_set (h : IsDs H a ps D) (hp : ps[j]? = some p) : IsDs (upd H p (.lst (r.map V.int))) a ps (D.set j r) := by
  have hj : j < D.length := by rw [← h.n]; exact (List.getElem?_eq_some_iff.mp hp).1
  refine ⟨by rw [upd_ne (h.ne (List.mem_of_getElem? hp)).symm]; exact h.l, by rw [List.length_set]; exact h.n, fun i q s hq hs => ?_, h.nd⟩
  by_cases e : i = j
  · subst e
    rw [hp] at hq
    have e1 : p = q := Option.some.inj hq
    subst e1
    rw [List.getElem?_set_self hj] at hs
    have e2 : r = s := Option.some.inj hs
    subst e2
    exact upd_same
  · rw [List.getElem?_set_ne (fun z => e z.symm)] at hs
    show (upd H p _) q = _
    rw [upd_ne (by rintro rfl; exact e (nodup_ix h.nd hq hp))]
    exact h.r i q s hq hs
theorem ds_rapp (h : IsDs H a ps D) (hp : ps[j]? = some p) (hl : (D.getD j []).length < 1000000) (k : ∀ o, IsDs (upd H p o) a ps (D.set j (D.getD j [] ++ [z])) → Q .non (upd H p o)) : rAppend (.ref p) [.int z] H Q :=
  a_app (h.row hp) hl (k _ (ds_set h hp))
theorem a_ins {ns : List Int} {i : Nat} (h : IsI H p ns) (hl : ns.length < 1000000) (hi : i ≤ 1000000) (k : Q .non (upd H p (.lst ((ns.take i ++ [z] ++ ns.drop i).map V.int)))) : mIns (.ref p) [.int (i : Int), .int z] H Q := by
  refine ⟨_, _, _, _, rfl, rfl, h, by rw [List.length_map]; exact sz5' hl, by omega, by omega, ?_⟩
  rw [Int.toNat_natCast, ← List.map_take, ← List.map_drop]
  rw [List.map_append, List.map_append] at k
  exact k
theorem ds_rins {i : Nat} (h : IsDs H a ps D) (hp : ps[j]? = some p) (hl : (D.getD j []).length < 1000000) (hi : i ≤ 1000000) (k : ∀ o, IsDs (upd H p o) a ps (D.set j ((D.getD j []).take i ++ [z] ++ (D.getD j []).drop i)) → Q .non (upd H p o)) : mIns (.ref p) [.int (i : Int), .int z] H Q :=
  a_ins (h.row hp) hl hi (k _ (ds_set h hp))
/-- rows.insert(i, a new row) -/
theorem ds_ins {i : Nat} (h : IsDs H a ps D) (hq : IsI H q r) (hn : q ∉ ps) (ha : q ≠ a) (hl : D.length < 1000000) (hi : i ≤ 1000000) (k : ∀ o, IsDs (upd H a o) a (ps.take i ++ [q] ++ ps.drop i) (D.take i ++ [r] ++ D.drop i) → Q .non (upd H a o)) : mIns (.ref a) [.int (i : Int), .ref q] H Q := by
  refine ⟨_, _, _, _, rfl, rfl, h.l, by rw [List.length_map, h.n]; exact sz5' hl, by omega, by omega, ?_⟩
  rw [Int.toNat_natCast]
  refine k _ ⟨by rw [upd_same, ← List.map_take, ← List.map_drop, List.map_append, List.map_append]; rfl, by simp only [List.length_append, List.length_take, List.length_drop, List.length_singleton, h.n], fun m p s hp hs => ?_, ?_⟩
  · have hmem : ∀ (m : Nat), ps[m]? = some p → D[m]? = some s → IsI (upd H a (.lst ((ps.map V.ref).take i ++ [V.ref q] ++ (ps.map V.ref).drop i))) p s := fun m hp hs => by
      show (upd H a _) p = _
      rw [upd_ne (h.ne (List.mem_of_getElem? hp))]
      exact h.r m p s hp hs
    have hlt : (ps.take i).length = (D.take i).length := by rw [List.length_take, List.length_take, h.n]
    by_cases h1 : m < (ps.take i).length
    · rw [List.append_assoc, List.getElem?_append_left h1, List.getElem?_take_of_lt (by rw [List.length_take] at h1; omega)] at hp
      rw [List.append_assoc, List.getElem?_append_left (by rw [← hlt]; exact h1), List.getElem?_take_of_lt (by rw [List.length_take] at h1; omega)] at hs
      exact hmem m hp hs
    · rw [List.append_assoc, List.getElem?_append_right (by omega)] at hp
      rw [List.append_assoc, List.getElem?_append_right (by rw [← hlt]; omega), ← hlt] at hs
      cases hm : m - (ps.take i).length with
      | zero =>
        rw [hm] at hp hs
        have e1 : q = p := Option.some.inj hp
        have e2 : r = s := Option.some.inj hs
        subst e1 e2
        show (upd H a _) q = _
        rw [upd_ne ha]; exact hq
      | succ m' =>
        rw [hm] at hp hs
        have hp : (ps.drop i)[m']? = some p := hp
        have hs : (D.drop i)[m']? = some s := hs
        rw [List.getElem?_drop] at hp hs
        exact hmem _ hp hs
  · have e : (ps.take i ++ [q] ++ ps.drop i).Perm (q :: ps) := by
      rw [List.append_assoc]
      refine (List.perm_append_comm).trans ?_
      rw [List.append_assoc]
      refine List.Perm.cons q ?_
      have := List.perm_append_comm (l₁ := ps.drop i) (l₂ := ps.take i)
      rw [List.take_append_drop] at this
      exact this
    exact e.nodup_iff.mpr (List.nodup_cons.mpr ⟨hn, h.nd⟩)
/-- rows[i], rows[-1] -/
theorem ds_ix (h : IsDs H a ps D) (hj : j < D.length) (k : ∀ p, ps[j]? = some p → Q (.ref p) H) : rIxL K (.ref a) (.int (j : Int)) H Q := by
  obtain ⟨p, hp⟩ : ∃ p, ps[j]? = some p := ⟨_, List.getElem?_eq_getElem (by rw [h.n]; exact hj)⟩
  exact ⟨_, _, _, _, rfl, rfl, sq h.l, atI_nat (by rw [List.getElem?_map, hp]; rfl), k _ hp⟩
theorem atI_neg1 {xs : List V} {v : V} (h : xs[xs.length - 1]? = some v) : atI xs (-1) = some v := by
  have hl := (List.getElem?_eq_some_iff.mp h).1
  unfold atI ixN
  rw [if_neg (by decide), if_pos (by omega), show (-1 + (xs.length : Int)).toNat = xs.length - 1 by omega]
  exact h
theorem ds_last (h : IsDs H a ps D) (hj : 0 < D.length) (k : ∀ p, ps[D.length - 1]? = some p → Q (.ref p) H) : rIxL K (.ref a) (.int (-1)) H Q := by
  obtain ⟨p, hp⟩ : ∃ p, ps[D.length - 1]? = some p := ⟨_, List.getElem?_eq_getElem (by rw [h.n]; omega)⟩
  exact ⟨_, _, _, _, rfl, rfl, sq h.l, atI_neg1 (by rw [List.length_map, h.n, List.getElem?_map, hp]; rfl), k _ hp⟩
theorem ds_len (h : IsDs H a ps D) (k : Q (.int (D.length : Nat)) H) : bLen K [.ref a] H Q := a_lenD h.toD k
theorem ds_ty (h : IsDs H a ps D) : tyV K "list" (.ref a) H := tyl h.l
/-- left.pop(i) -/
theorem a_popAt {ns : List Int} {i : Nat} (h : IsI H p ns) (hz : ns[i]? = some z) (hi : i ≤ 1000000) (k : Q (.int z) (upd H p (.lst ((ns.eraseIdx i).map V.int)))) : rPopAt (.ref p) [.int (i : Int)] H Q := by
  have hil := (List.getElem?_eq_some_iff.mp hz).1
  refine ⟨_, _, _, i, _, rfl, rfl, h, by omega, by omega, ?_, getM hz, ?_⟩
  · exact (ixN_seq (Evl.ixN_nat (by rw [List.length_map]; exact hil))).1
  · have e : (ns.map V.int).eraseIdx i = (ns.eraseIdx i).map V.int := by
      clear k h hz hil
      induction ns generalizing i with
      | nil => rfl
      | cons x ns ih =>
        cases i with
        | zero => rfl
        | succ i => rw [List.map_cons, List.eraseIdx_cons_succ, List.eraseIdx_cons_succ, List.map_cons, ih (by omega)]
    rw [e]; exact k
theorem ds_pop {i : Nat} (h : IsDs H a ps D) (hi : i < D.length) (hz : i ≤ 1000000) (k : ∀ p o, ps[i]? = some p → IsDs (upd H a o) a (ps.eraseIdx i) (D.eraseIdx i) → Q (.ref p) (upd H a o)) : rPopAt (.ref a) [.int (i : Int)] H Q := by
  obtain ⟨p0, hp⟩ : ∃ p, ps[i]? = some p := ⟨_, List.getElem?_eq_getElem (by rw [h.n]; exact hi)⟩
  have e : ∀ (l : List Addr) (i : Nat), (l.map V.ref).eraseIdx i = (l.eraseIdx i).map V.ref := fun l => by
    induction l with
    | nil => intro i; rfl
    | cons x l ih =>
      intro i
      cases i with
      | zero => rfl
      | succ i => rw [List.map_cons, List.eraseIdx_cons_succ, List.eraseIdx_cons_succ, List.map_cons, ih]
  refine ⟨_, _, _, i, _, rfl, rfl, h.l, by omega, by omega, ?_, by rw [List.getElem?_map, hp]; rfl, k _ _ hp ⟨by rw [upd_same, e], by rw [List.length_eraseIdx, List.length_eraseIdx, h.n], fun m p s hpm hsm => ?_, h.nd.sublist (List.eraseIdx_sublist ..)⟩⟩
  · exact (ixN_seq (Evl.ixN_nat (by rw [List.length_map, h.n]; exact hi))).1
  · have key : ∀ (m : Nat), ps[m]? = some p → D[m]? = some s → IsI (upd H a (.lst ((ps.map V.ref).eraseIdx i))) p s := fun m hp hs => by
      show (upd H a _) p = _
      rw [upd_ne (h.ne (List.mem_of_getElem? hp))]
      exact h.r m p s hp hs
    rw [List.getElem?_eraseIdx] at hpm hsm
    by_cases hm : m < i
    · rw [if_pos hm] at hpm hsm
      exact key _ hpm hsm
    · rw [if_neg hm] at hpm hsm
      exact key _ hpm hsm
def LRg (x : V) (H : Hp) (Q : VK) : Prop := ∃ n, x = .int n ∧ RgOk 0 n ∧ ∀ q, H q = none → Q (.ref q) (upd H q (.lst (rgV 0 n)))
theorem s_lrg {σ : L2.St} {ta : TE} (k : ta σ H fun x H1 => LRg x H1 Q) : tLstRg (tRg1 ta) σ H Q := by
  unfold LRg at k
  have e : tLstRg (tRg1 ta) σ H Q = ta σ H fun x H1 => ∃ n, x = .int n ∧ RgOk 0 n ∧ ∀ q, H1 q = none → Q (.ref q) (upd H1 q (.lst (rgV 0 n))) := rfl
  rw [e]; exact k
theorem lrg {n : Nat} (hn : n ≤ 1000000) (k : ∀ q H', Ex H H' → H q = none → IsI H' q (rng n) → Q (.ref q) H') : LRg (.int (n : Int)) H Q := by
  refine ⟨_, rfl, RgOk.of_le (by omega) (by omega) (by omega) (by omega), all_new fun q H' e nq hq => k q H' e nq ?_⟩
  show H' q = _
  rw [hq]
  unfold rgV rng
  rw [List.map_map]
  congr 2
  rw [show ((n : Int) - 0).toNat = n by omega]
  apply List.map_congr_left
  intro i _
  show V.int (0 + (i : Int)) = V.int (i : Int)
  rw [Int.zero_add]
theorem inV_ints (z : Int) (ns : List Int) : inV (V.int z) (ns.map V.int) = decide (z ∈ ns) := by
  unfold inV
  induction ns with
  | nil => rfl
  | cons x ns ih =>
    rw [List.map_cons, List.any_cons, ih]
    by_cases e : z = x
    · subst e; simp [eqv_ints]
    · have : eqV (V.int x) (V.int z) = false := by rw [eqv_ints]; simp; exact fun q => e q.symm
      have h2 : eqV (V.int z) (V.int x) = false := by rw [eqv_ints]; simp [e]
      simp [this, h2, e]
theorem a_in {ns : List Int} (h : IsI H p ns) (k : Q (.bl (decide (z ∈ ns))) H) : rIn K false (.int z) (.ref p) H Q :=
  ⟨p, _, rfl, .inl h.sq, rfl, flat_ints ns, by rw [if_neg (by decide), inV_ints]; exact k⟩
theorem a_notin {ns : List Int} (h : IsI H p ns) (k : Q (.bl (!decide (z ∈ ns))) H) : rIn K true (.int z) (.ref p) H Q :=
  ⟨p, _, rfl, .inl h.sq, rfl, flat_ints ns, by rw [if_pos rfl, inV_ints]; exact k⟩
theorem exB_of {S : List Addr} (e : Ex H H') : ExB S H H' := fun b o _ h => e b o h
theorem ExB.trans {S : List Addr} {H1 H2 H3 : Hp} (a : ExB S H1 H2) (b : ExB S H2 H3) : ExB S H1 H3 := fun x o hx h => b x o hx (a x o hx h)
theorem ExB.upd {S : List Addr} (e : ExB S H H') (h : p ∈ S) : ExB S H (upd H' p o) := fun b u hb hu => by
  rw [upd_ne (by rintro rfl; exact hb h)]
  exact e b u hb hu
theorem a_ext {ns ms : List Int} (h : IsI H p ns) (h' : IsI H q ms) (hl : ns.length + ms.length ≤ 1000000) (k : Q .non (upd H p (.lst ((ns ++ ms).map V.int)))) : rExtend (.ref p) [.ref q] H Q :=
  ⟨_, _, _, _, rfl, rfl, h, h', by rw [List.length_map, List.length_map]; exact sz5 hl, by rw [← List.map_append]; exact k⟩
/-- over a list of pairs -/
theorem forLT {D : Ends} {tb : TS} {i1 i2 : Nat} {xs : List V} {σ : L2.St} (h : ∀ i σ H, Pv i σ H → SqL K H a xs) (h0 : (Pv : Nat → L2.St → Hp → Prop) 0 σ H)
    (hs : ∀ i x σ H, xs[i]? = some x → Pv i σ H → ∃ t u v, x = .ref t ∧ SqT K H t [u, v] ∧ tb { D with nx := Pv (i + 1), ct := Pv (i + 1), bk := D.nx } ((σ.set i1 (some u)).set i2 (some v)) H) (hd : ∀ σ H, Pv xs.length σ H → D.nx σ H) :
    ForL K (.ref a) (gTup K 2 (gCons (gName i1) (gCons (gName i2) gNil))) tb D σ H :=
  ⟨a, rfl, ⟨_, h 0 σ H h0⟩, for_list (xs := xs) Pv h0 (fun i σ H _ p => h i σ H p) (fun i x σ H hx p => by
    obtain ⟨t, u, v, rfl, ht, hb⟩ := hs i x σ H hx p
    exact ⟨t, _, rfl, ht, rfl, _, _, rfl, _, _, rfl, rfl, hb⟩) hd⟩
theorem repL_flat (n : Nat) (ns : List Int) : (List.replicate n (ns.map V.int)).flatten = ((List.replicate n ns).flatten).map V.int := by
  induction n with
  | zero => rfl
  | succ n ih => rw [List.replicate_succ, List.replicate_succ, List.flatten_cons, List.flatten_cons, ih, List.map_append]
theorem a_repL {ns : List Int} {n : Nat} (h : IsI H a ns) (hn : n ≤ 1000000) (hl : ns.length * n ≤ 1000000) (k : ∀ p H', Ex H H' → H p = none → IsI H' p (List.replicate n ns).flatten → Q (.ref p) H') : rRep (.ref a) (.int (n : Int)) H Q :=
  ⟨_, _, _, rfl, rfl, h, by omega, by omega, sz5 (by rw [List.length_map, Int.toNat_natCast]; exact hl), all_new fun p H' e np hp => k p H' e np (by unfold IsI; rw [← repL_flat]; exact hp)⟩
theorem rep2_get (n : Nat) (x : Int) {i : Nat} (hi : i < 2 * n) : (List.replicate n [x, x]).flatten[i]? = some x := by
  have hl : (List.replicate n [x, x]).flatten.length = 2 * n := by
    induction n with
    | zero => rfl
    | succ n ih => 
      rw [List.replicate_succ, List.flatten_cons, List.length_append]
      have : ∀ n : Nat, (List.replicate n [x, x]).flatten.length = 2 * n := fun n => by
        induction n with
        | zero => rfl
        | succ n ih => rw [List.replicate_succ, List.flatten_cons, List.length_append, ih]; simp; omega
      rw [this]; simp; omega
  have hm : ∀ y ∈ (List.replicate n [x, x]).flatten, y = x := fun y hy => by
    obtain ⟨l, hl, hy⟩ := List.mem_flatten.mp hy
    rw [List.eq_of_mem_replicate hl] at hy
    simp at hy
    exact hy
  have hg : (List.replicate n [x, x]).flatten[i]? = some ((List.replicate n [x, x]).flatten[i]'(by omega)) := List.getElem?_eq_getElem (by omega)
  rw [hg, hm _ (List.getElem_mem _)]
theorem rep2_len (n : Nat) (x : Int) : (List.replicate n [x, x]).flatten.length = 2 * n := by
  induction n with
  | zero => rfl
  | succ n ih => rw [List.replicate_succ, List.flatten_cons, List.length_append, ih]; simp; omega
theorem rep2_mem {n : Nat} {x y : Int} (hy : y ∈ (List.replicate n [x, x]).flatten) : y = x := by
  obtain ⟨l, hl, hy⟩ := List.mem_flatten.mp hy
  rw [List.eq_of_mem_replicate hl] at hy
  simp at hy
  exact hy
/-! ### what is drawn -/
theorem drawn_cons {ps ss : List Int} {s : Int} (h : Drawn ps (s :: ss)) : ∃ (p : Nat) (r : List Int), ps = (p : Int) :: r ∧ (p : Int) < s ∧ Drawn r ss := by
  cases ps with
  | nil => have := h.1; simp at this
  | cons p r =>
    have h0 := h.2 0 p s rfl rfl
    refine ⟨p.toNat, r, by rw [Int.toNat_of_nonneg h0.1], by omega, by have := h.1; simpa using this, fun i x y hx hy => h.2 (i + 1) x y hx hy⟩
theorem drawn_nil {ps : List Int} (h : Drawn ps []) : ps = [] := List.length_eq_zero_iff.mp (by rw [h.1]; rfl)
theorem drawn_get {ps ss : List Int} {i : Nat} {s : Int} (h : Drawn ps ss) (hs : ss[i]? = some s) : ∃ p : Nat, ps[i]? = some (p : Int) ∧ (p : Int) < s := by
  have hi : i < ps.length := by rw [h.1]; exact (List.getElem?_eq_some_iff.mp hs).1
  have hp : ps[i]? = some ps[i] := List.getElem?_eq_getElem hi
  have h0 := h.2 i _ s hp hs
  exact ⟨ps[i].toNat, by rw [hp, Int.toNat_of_nonneg h0.1], by omega⟩
end
end RF

/-! More steps: xs[::-1], comprehensions over a range of two numbers, sets of ints, isinstance. -/
namespace RF
open PySem PySem.Spec PyProof.Rows L2
open Evl (Ex)
section
variable {K : PySem.W.Frag} {σ : L2.St} {H H' : Hp} {Q : VK} {D : Ends} {te : TE} {tt : TT} {ta : TA} {g : TG} {j : Nat} {a b : Addr} {ns : List Int} {E : Dr} {vs : List Nat}
def RevL (K : PySem.W.Frag) (x : V) (H : Hp) (Q : VK) : Prop := ∃ a xs, x = .ref a ∧ SqL K H a xs ∧ ∀ p, H p = none → Q (.ref p) (upd H p (.lst xs.reverse))
theorem s_rev (k : te σ H fun x H1 => RevL K x H1 Q) : tRevL K te σ H Q := k
theorem a_rev (h : IsI H a ns) (k : ∀ p H', Ex H H' → H p = none → IsI H' p ns.reverse → Q (.ref p) H') : RevL K (.ref a) H Q :=
  ⟨a, _, rfl, h.sq, all_new fun p H' e n hp => k p H' e n (by unfold IsI; rw [List.map_reverse]; exact hp)⟩
def LcR2 (ws : List V) (g : TG) (tt : TT) (te : TE) (vs : List Nat) (σ : L2.St) (H : Hp) (Q : VK) : Prop := ∃ i j : Int, ws = [.int i, .int j] ∧ (-(2 ^ 62) ≤ i ∧ i < 2 ^ 62 ∧ -(2 ^ 62) ≤ j ∧ j < 2 ^ 62) ∧ LcJ g tt te vs (Itr i (j - i).toNat) σ H Q
theorem s_lcR2 (k : ta σ H fun ws H1 => LcR2 ws g tt te vs σ H1 Q) : tLc (iRng2 ta) g tt te vs σ H Q := k
/-- over range(lo, n), new lists of ints told -/
theorem lcDR2 {lo n : Nat} (hn : n ≤ 1000000) (hlo : lo ≤ 1000000) (f : Nat → List Int)
    (he : ∀ i, lo + i < n → ∀ H1, Ex H H1 → ∀ R : VK, (∀ q H2, Ex H1 H2 → H1 q = none → IsI H2 q (f i) → R (.ref q) H2) → te (stJ σ j (.int ((lo + i : Nat) : Int))) H1 R)
    (k : ∀ q H', Ex H H' → H q = none → IsD H' q ((List.range (n - lo)).map f) → Q (.ref q) H') : LcR2 [.int (lo : Int), .int (n : Int)] (gName j) tYes te [j] σ H Q := by
  refine ⟨_, _, rfl, ⟨by omega, by omega, by omega, by omega⟩, fun Dl hD => ?_⟩
  refine lc_range (lo := (lo : Int)) (n := ((n : Int) - (lo : Int)).toNat) (fun i H' => Ex H H' ∧ ∃ qs : List Addr, H' Dl = some (.lst (qs.map V.ref)) ∧ qs.length = i ∧ (∀ (m : Nat) (q : Addr), qs[m]? = some q → IsI H' q (f m)) ∧ (∀ q ∈ qs, q ≠ Dl))
    ⟨Ex.new hD, [], upd_same, rfl, (fun m q hq => by simp at hq), (fun q hq => by simp at hq)⟩ (fun i H' hi hp => ?_) (fun H' hp => ?_)
  · obtain ⟨e, qs, hq1, hq2, hq3, hq4⟩ := hp
    have e0 : (lo : Int) + (i : Int) = ((lo + i : Nat) : Int) := by omega
    refine ⟨wipe1 σ j _, ?_⟩
    show te ((wipe σ [j]).set j (some (.int ((lo : Int) + (i : Int))))) H' _
    rw [e0]
    refine he i (by omega) H' e _ fun q H2 e2 nq hqr => ⟨_, e2 _ _ hq1, by rw [List.length_map, hq2]; exact sz5' (by omega), ex_mut (e.trans e2) hD, qs ++ [q], by rw [List.map_append]; exact upd_same, by rw [List.length_append, hq2]; rfl, fun m q' hm => ?_, fun s hs => ?_⟩
    · have nD : q ≠ Dl := by rintro rfl; rw [nq] at hq1; cases hq1
      by_cases hmi : m < qs.length
      · rw [List.getElem?_append_left hmi] at hm
        show (upd H2 Dl _) q' = _
        rw [upd_ne (hq4 q' (List.mem_of_getElem? hm))]
        exact (hq3 m q' hm).ex e2
      · rw [List.getElem?_append_right (by omega)] at hm
        have hm0 : m - qs.length = 0 := by
          have := (List.getElem?_eq_some_iff.mp hm).1
          simp at this; omega
        rw [hm0] at hm
        have e3 : q = q' := Option.some.inj hm
        subst e3
        have e4 : m = i := by omega
        subst e4
        show (upd H2 Dl _) q = _
        rw [upd_ne nD]
        exact hqr
    · rcases List.mem_append.mp hs with hs | hs
      · exact hq4 s hs
      · rw [List.mem_singleton.mp hs]
        rintro rfl; rw [nq] at hq1; cases hq1
  · obtain ⟨e, qs, hq1, hq2, hq3, hq4⟩ := hp
    have hq2' : qs.length = n - lo := by omega
    refine k Dl H' e hD ⟨⟨qs, hq1, by rw [List.length_map, List.length_range]; exact hq2', fun m q r hq hr => ?_⟩⟩
    have hm : m < n - lo := by have := (List.getElem?_eq_some_iff.mp hq).1; omega
    rw [List.getElem?_map, List.getElem?_range hm] at hr
    cases hr
    exact hq3 m q hq
/-! ### len(set(xs)) -/
theorem ded_step {l : List Int} {x : Int} : step_dedup l x = if x ∈ l then l else l ++ [x] := by
  unfold step_dedup
  by_cases h : x ∈ l
  · rw [if_pos h, if_pos (show (l.any fun y => y == x) = true from List.any_eq_true.mpr ⟨x, h, beq_self_eq_true x⟩)]
  · rw [if_neg h, if_neg (fun q => by obtain ⟨y, hy, e⟩ := List.any_eq_true.mp q; rw [eq_of_beq e] at hy; exact h hy)]
theorem ded_lt (f : Nat → Int) : ∀ n, (firstMet f n).length < n ∨ firstMet f n = (List.range n).map f ∧ ((List.range n).map f).Nodup := by
  intro n
  induction n with
  | zero => exact .inr ⟨rfl, List.nodup_nil⟩
  | succ n ih =>
    rw [firstMet_succ, ded_step]
    by_cases hx : f n ∈ firstMet f n
    · rw [if_pos hx]
      exact .inl (Nat.lt_succ_of_le (firstMet_len f n))
    · rw [if_neg hx]
      rcases ih with h | ⟨h1, h2⟩
      · exact .inl (by rw [List.length_append, List.length_singleton]; omega)
      · refine .inr ?_
        rw [List.range_succ, List.map_append]
        rw [h1] at hx ⊢
        exact ⟨rfl, List.nodup_append.mpr ⟨h2, by simp, fun a ha b hb => by rw [List.mem_singleton.mp hb]; rintro rfl; exact hx ha⟩⟩
theorem ded_iff (ns : List Int) : ((dedI ns).length = ns.length) ↔ ns.Nodup := by
  have e : (List.range ns.length).map (fun i => ns.getD i 0) = ns := getD_map ns 0
  unfold dedI
  constructor
  · intro h
    rcases ded_lt (fun i => ns.getD i 0) ns.length with q | ⟨q1, q2⟩
    · omega
    · rw [e] at q2; exact q2
  · intro h
    rw [HandS_nodup h]
where
  HandS_nodup {ns : List Int} (h : ns.Nodup) : (firstMet (fun i => ns.getD i 0) ns.length) = ns := by
    have e : (List.range ns.length).map (fun i => ns.getD i 0) = ns := getD_map ns 0
    have key : ∀ n, n ≤ ns.length → firstMet (fun i => ns.getD i 0) n = ns.take n := by
      intro n
      induction n with
      | zero => intro _; rfl
      | succ n ih =>
        intro hn
        rw [firstMet_succ, ih (by omega), ded_step]
        have hg : ns[n]? = some (ns.getD n 0) := by
          rw [List.getD_eq_getElem?_getD, List.getElem?_eq_getElem (by omega)]; rfl
        rw [if_neg (fun q => ?_), List.take_add_one, hg]; rfl
        obtain ⟨j, hj⟩ := List.mem_iff_getElem?.mp q
        rw [List.getElem?_take] at hj
        by_cases hjn : j < n
        · rw [if_pos hjn] at hj
          obtain ⟨h1, h2⟩ := List.getElem?_eq_some_iff.mp hj
          obtain ⟨h3, h4⟩ := List.getElem?_eq_some_iff.mp hg
          exact List.pairwise_iff_getElem.mp h j n h1 h3 hjn (h2.trans h4.symm)
        · rw [if_neg hjn] at hj; cases hj
    rw [key _ (Nat.le_refl _), List.take_length]
def LenS (K : PySem.W.Frag) (x : V) (H : Hp) (Q : VK) : Prop := ∃ (l : Addr) (ns : List Int), x = .ref l ∧ SqL K H l (ns.map V.int) ∧ ns.length ≤ 4000 ∧ Q (.int ((dedI ns).length : Nat)) H
theorem s_lenS (k : te σ H fun x H1 => LenS K x H1 Q) : tLenSetN K te σ H Q := k
theorem a_lenSet (h : IsI H a ns) (hl : ns.length ≤ 4000) (k : Q (.int ((dedI ns).length : Nat)) H) : LenS K (.ref a) H Q := ⟨_, _, rfl, h.sq, hl, k⟩
/-! ### isinstance -/
theorem isi_list {xs : List V} (h : H a = some (.lst xs)) (k : Q (.bl true) H) : rIsi K [.ref a, .ty "list"] H Q := ⟨_, _, _, _, true, rfl, .ty _, .base (.lst h), rfl, k⟩
theorem isi_int {z : Int} (k : Q (.bl true) H) : rIsi K [.int z, .ty "int"] H Q := ⟨_, _, _, _, true, rfl, .ty _, .base (.int z), rfl, k⟩
theorem isi_bool {z : Int} (k : Q (.bl false) H) : rIsi K [.int z, .ty "bool"] H Q := ⟨_, _, _, _, false, rfl, .ty _, .base (.int z), rfl, k⟩
end
theorem turn_len {D : Dr} {m : Nat} {T : List Int} (hv : Valid D m) (h : IsTurn D m T) : T.length ≤ D.length := by
  have := nodup_len (m := List.range D.length) h.ps fun x hx => by
    obtain ⟨e, he, rfl⟩ := List.mem_map.mp hx
    have hr := h.wk.rg e he
    exact List.mem_range.mpr (seat_lt (hv.mem hr.1 hr.2))
  rw [List.length_map, List.length_range] at this
  exact this
/-- both branches meet -/
theorem iteJ {t u : TS} {D : Ends} {c : Bool} {σ : L2.St} {H : Hp} (I : L2.St → Hp → Prop) (h1 : ∀ N : L2.St → Hp → Prop, (∀ σ' H', I σ' H' → N σ' H') → c = true → t { D with nx := N } σ H)
    (h2 : ∀ N : L2.St → Hp → Prop, (∀ σ' H', I σ' H' → N σ' H') → c = false → u { D with nx := N } σ H) (hr : ∀ σ' H', I σ' H' → D.nx σ' H') : if c = true then t D σ H else u D σ H := by
  cases c with
  | true => rw [if_pos rfl]; exact h1 D.nx hr rfl
  | false => rw [if_neg (by decide)]; exact h2 D.nx hr rfl
theorem int_of_dec {i j : Int} (h : decide (V.int i = V.int j) = true) : i = j := V.int.inj (of_decide_eq_true h)
theorem int_of_ndec {i j : Int} (h : decide (V.int i = V.int j) = false) : i ≠ j := fun e => of_decide_eq_false h (congrArg V.int e)
end RF

namespace RF
open PySem PySem.Spec PyProof.Rows L2
open Evl (Ex)
local macro_rules | `(tactic| walk_at "s") => `(tactic| first
  | ((with_reducible refine' s_var ?hh ?_); (case hh => rfl))
  | ((with_reducible refine' s_aug ?hh ?_); (case hh => rfl))
  | with_reducible refine s_seq ?_
  | with_reducible refine s_I i2_ne ?_
  | with_reducible refine s_I cdiv2 ?_
  | with_reducible refine s_I (cmod (by decide)) ?_
  | with_reducible refine s_I (cpow (by decide)) ?_
  | with_reducible refine s_I (cdivn (by decide)) ?_
  | with_reducible refine s_I (cmulc (by decide)) ?_
  | with_reducible refine s_I (cmulc2 (by decide)) ?_
  | with_reducible refine s_next ?_
  | with_reducible refine s_asg ?_
  | with_reducible refine s_asgS ?_
  | with_reducible refine s_asgU ?_
  | with_reducible refine s_ret ?_
  | with_reducible refine s_retN ?_
  | with_reducible refine s_drop ?_
  | with_reducible refine s_if ?_
  | with_reducible refine s_c ?_
  | with_reducible refine s_op ?_
  | with_reducible refine s_un ?_
  | with_reducible refine s_neg ?_
  | with_reducible refine s_I0 ?_
  | with_reducible refine s_eqI ?_
  | with_reducible refine s_neI ?_
  | with_reducible refine s_eqB ?_
  | with_reducible refine s_eqS ?_
  | with_reducible refine s_isN ?_
  | with_reducible refine s_notN ?_
  | with_reducible refine s_test ?_
  | with_reducible refine s_B ?_
  | with_reducible refine s_k ?_
  | with_reducible refine s_and ?_
  | with_reducible refine s_or ?_
  | with_reducible refine s_not ?_
  | with_reducible refine s_yes ?_
  | with_reducible refine s_andV ?_
  | with_reducible refine s_orV ?_
  | with_reducible refine s_notV ?_
  | with_reducible refine s_kk ?_
  | with_reducible refine s_nil ?_
  | with_reducible refine s_cons ?_
  | with_reducible refine s_cb ?_
  | with_reducible refine s_cal ?_
  | with_reducible refine s_bm ?_
  | with_reducible refine s_bm0 ?_
  | with_reducible refine s_lst ?_
  | with_reducible refine s_tup ?_
  | with_reducible refine s_sl ?_
  | with_reducible refine s_nopart ?_
  | with_reducible refine s_part ?_
  | with_reducible refine s_i ?_
  | with_reducible refine s_dget ?_
  | with_reducible refine s_din ?_
  | with_reducible refine s_dnin ?_
  | with_reducible refine c_mate ?_
  | with_reducible refine c_lmate ?_
  | with_reducible refine s_ipI ?_
  | with_reducible refine s_dput ?_
  | with_reducible refine s_forL ?_
  | with_reducible refine s_forE ?_
  | with_reducible refine s_forR1 ?_
  | with_reducible refine s_forR2 ?_
  | with_reducible refine s_lcL ?_
  | with_reducible refine s_lcR ?_
  | with_reducible refine s_lcV ?_
  | with_reducible refine s_lrg ?_
  | with_reducible refine s_rev ?_
  | with_reducible refine s_lcR2 ?_
  | with_reducible refine s_lenS ?_
  | with_reducible refine isi_int ?_
  | with_reducible refine isi_bool ?_)
local macro_rules | `(tactic| walk_at "S") => `(tactic| repeat walk_at "s")

abbrev s_mate_of : Stmt := top 1
abbrev N_mate_of : List Str := ["end"]
-- slots: 0 end
def t_mate_of (K : PySem.W.Frag) : TS :=
  (tRet (tOp rSub (tOp rAdd (tVar 0) (tC (.int 1))) (tOp rMul (tC (.int 2)) (tOp rMod (tVar 0) (tC (.int 2))))))
theorem len_mate_of {K : PySem.W.Frag} {vs : List V} {H : Hp} {Q : VK} {E : XK} (h : sp_mate_of K vs H Q E) : vs.length = (["end"] : List Str).length := by
  obtain ⟨e, rfl, _⟩ := h; rfl
theorem pure_mate_of {K : PySem.W.Frag} (vs : List V) (H : Hp) (Q : VK) (E : XK) (h : sp_mate_of K vs H Q E) : t_mate_of K { nx := fun _ H' => Q .non H', rt := Q } (start N_mate_of vs) H := by
  obtain ⟨e, rfl, k⟩ := h
  unfold t_mate_of
  walk_at "S"
  rw [mt_is]; exact k

section
variable {P : Program} {w : World} {K : PySem.W.Frag} {mg : Str → Option Value} {base : Heap}
theorem sc_mate_of : FnScope N_mate_of ["end"] (defScope s_mate_of) := ⟨rfl, rfl, rfl, by decide +kernel, rfl, by decide +kernel, by decide +kernel⟩
theorem cal_mate_of (B : Blt mg) (D : Dfn K mg "mate_of" s_mate_of ["end"])  : Cal P w K mg base CX0 1 "mate_of" ["end"] (sp_mate_of K) := by
  refine cal_mk D fun f fd F => F.ok sc_mate_of (fun vs H Q E h => len_mate_of h) (fun cdv A outer s H vs Q E hr h => ⟨t_mate_of K, ?_, pure_mate_of vs H Q E h⟩)
  have hu := hu_of hr
  exact (pss_one (ps_ret (pe_op op_sub (pe_op op_add (pv 0) pe_int) (pe_op op_mul pe_int (pe_op op_modN (pv 0) pe_int)))))
end

abbrev s_least_first : Stmt := top 2
abbrev N_least_first : List Str := ["row", "at"]
-- slots: 0 row, 1 at
def t_least_first (K : PySem.W.Frag) : TS :=
  (tSeq (tIfS (tTest (tOp rEq (tCB (bLen K) (tCons (tVar 0) tNil)) (tC (.int 0)))) (tRet (tLst tNil)) tNext)
        (tSeq (tAsg (tBM K "list" (rIndex K) (tVar 0) (tCons (tCB (rMin K) (tCons (tVar 0) tNil)) tNil)) (gName 1))
        (tRet (tOp rCat (tSl (rSlL K) (tVar 0) (tPart (tVar 1)) tNoPart) (tSl (rSlL K) (tVar 0) tNoPart (tPart (tVar 1)))))))
theorem len_least_first {K : PySem.W.Frag} {vs : List V} {H : Hp} {Q : VK} {E : XK} (h : sp_least_first K vs H Q E) : vs.length = (["row"] : List Str).length := by
  obtain ⟨a, ns, rfl, _⟩ := h; rfl
theorem pure_least_first {K : PySem.W.Frag} (vs : List V) (H : Hp) (Q : VK) (E : XK) (h : sp_least_first K vs H Q E) : t_least_first K { nx := fun _ H' => Q .non H', rt := Q } (start N_least_first vs) H := by
  obtain ⟨a, ns, rfl, hI, hl, k⟩ := h
  unfold t_least_first
  walk_at "S"
  refine a_len hI ?_
  walk_at "S"
  refine iteEq (fun e => ?_) (fun e => ?_)
  · -- return []
    have e0 : ns = [] := List.length_eq_zero_iff.mp (by omega)
    subst e0
    walk_at "S"
    exact new0 fun p H' e1 np hp => k H' p [] e1 np hp (List.Perm.refl _)
  · walk_at "S"
    refine ⟨tyl hI, ?_⟩
    walk_at "S"
    refine a_min hI (by omega) fun m hm => ?_
    walk_at "S"
    refine a_index hI hm fun j hj _ => ?_
    walk_at "S"
    refine a_from hI fun p1 H1 e1 n1 h1 => ?_
    walk_at "S"
    refine a_to (hI.ex e1) fun p2 H2 e2 n2 h2 => ?_
    refine a_cat (h1.ex e2) h2 (by rw [List.length_drop, List.length_take]; omega) fun p H3 e3 n3 h3 => ?_
    refine k H3 p _ ((e1.trans e2).trans e3) (ex_back (e1.trans e2) n3) h3 ?_
    have q := List.perm_append_comm (l₁ := ns.drop j) (l₂ := ns.take j)
    rw [List.take_append_drop] at q
    exact q

section
variable {P : Program} {w : World} {K : PySem.W.Frag} {mg : Str → Option Value} {base : Heap}
theorem sc_least_first : FnScope N_least_first ["row"] (defScope s_least_first) := ⟨rfl, rfl, rfl, by decide +kernel, rfl, by decide +kernel, by decide +kernel⟩
theorem cal_least_first (B : Blt mg) (D : Dfn K mg "least_first" s_least_first ["row"])  : Cal P w K mg base CX0 1 "least_first" ["row"] (sp_least_first K) := by
  refine cal_mk D fun f fd F => F.ok sc_least_first (fun vs H Q E h => len_least_first h) (fun cdv A outer s H vs Q E hr h => ⟨t_least_first K, ?_, pure_least_first vs H Q E h⟩)
  have hu := hu_of hr
  exact (pss_cons (ps_if (pt_cmpR op_eq (pe_callB call_len_seq (by rfl) B.len_ PySem.boot_len (pa_cons (pv 0) pa_nil)) pe_int (nomark _)) (pss_one (ps_ret (pe_lst pa_nil))) pss_nil)
        (pss_cons (ps_set (i := 1) sc_least_first.nd rfl (Or.inl rfl) (pe_bm PySem.F.plainAttrs_list PySem.F.slot_list_index PySem.F.type_list_index mt_index (pv 0) (pa_cons (pe_callB (cr_min rfl) (by rfl) B.min_ (by decide +kernel) (pa_cons (pv 0) pa_nil)) pa_nil)))
        (pss_one (ps_ret (pe_op op_cat (pe_slice sl_list (pv 0) (po_some (pv 1)) po_none) (pe_slice sl_list (pv 0) po_none (po_some (pv 1))))))))
end

abbrev s_begun_at : Stmt := top 3
abbrev N_begun_at : List Str := ["row", "end", "at"]
-- slots: 0 row, 1 end, 2 at
def t_begun_at (K : PySem.W.Frag) : TS :=
  (tSeq (tAsg (tBM K "list" (rIndex K) (tVar 0) (tCons (tVar 1) tNil)) (gName 2))
        (tRet (tOp rCat (tSl (rSlL K) (tVar 0) (tPart (tVar 2)) tNoPart) (tSl (rSlL K) (tVar 0) tNoPart (tPart (tVar 2))))))
theorem len_begun_at {K : PySem.W.Frag} {vs : List V} {H : Hp} {Q : VK} {E : XK} (h : sp_begun_at K vs H Q E) : vs.length = (["row", "end"] : List Str).length := by
  obtain ⟨a, ns, e, rfl, _⟩ := h; rfl
theorem pure_begun_at {K : PySem.W.Frag} (vs : List V) (H : Hp) (Q : VK) (E : XK) (h : sp_begun_at K vs H Q E) : t_begun_at K { nx := fun _ H' => Q .non H', rt := Q } (start N_begun_at vs) H := by
  obtain ⟨a, ns, e, rfl, hI, he, hl, k⟩ := h
  unfold t_begun_at
  walk_at "S"
  refine ⟨tyl hI, ?_⟩
  walk_at "S"
  refine a_index hI he fun j hj _ => ?_
  walk_at "S"
  refine a_from hI fun p1 H1 e1 n1 h1 => ?_
  walk_at "S"
  refine a_to (hI.ex e1) fun p2 H2 e2 n2 h2 => ?_
  refine a_cat (h1.ex e2) h2 (by rw [List.length_drop, List.length_take]; omega) fun p H3 e3 n3 h3 => ?_
  obtain ⟨hj1, hj2⟩ := List.getElem?_eq_some_iff.mp hj
  have hd : ns.drop j = e :: ns.drop (j + 1) := by rw [List.drop_eq_getElem_cons hj1, hj2]
  rw [hd] at h3
  refine k H3 p _ ((e1.trans e2).trans e3) (ex_back (e1.trans e2) n3) h3 ⟨_, rfl, ns.take j, ns.drop j, (List.take_append_drop j ns).symm, by rw [hd]; rfl⟩

section
variable {P : Program} {w : World} {K : PySem.W.Frag} {mg : Str → Option Value} {base : Heap}
theorem sc_begun_at : FnScope N_begun_at ["row", "end"] (defScope s_begun_at) := ⟨rfl, rfl, rfl, by decide +kernel, rfl, by decide +kernel, by decide +kernel⟩
theorem cal_begun_at (B : Blt mg) (D : Dfn K mg "begun_at" s_begun_at ["row", "end"])  : Cal P w K mg base CX0 1 "begun_at" ["row", "end"] (sp_begun_at K) := by
  refine cal_mk D fun f fd F => F.ok sc_begun_at (fun vs H Q E h => len_begun_at h) (fun cdv A outer s H vs Q E hr h => ⟨t_begun_at K, ?_, pure_begun_at vs H Q E h⟩)
  have hu := hu_of hr
  exact (pss_cons (ps_set (i := 2) sc_begun_at.nd rfl (Or.inl rfl) (pe_bm PySem.F.plainAttrs_list PySem.F.slot_list_index PySem.F.type_list_index mt_index (pv 0) (pa_cons (pv 1) pa_nil)))
        (pss_one (ps_ret (pe_op op_cat (pe_slice sl_list (pv 0) (po_some (pv 2)) po_none) (pe_slice sl_list (pv 0) po_none (po_some (pv 2)))))))
end

abbrev s_count_ends : Stmt := top 4
abbrev N_count_ends : List Str := ["drawing", "row"]
-- slots: 0 drawing, 1 row
def t_count_ends (K : PySem.W.Frag) : TS :=
  (tRet (tCB (rSum K) (tCons (tLc (iList K (tVar 0)) (gName 1) tYes (tCB (bLen K) (tCons (tVar 1) tNil)) [1]) tNil)))
theorem len_count_ends {K : PySem.W.Frag} {vs : List V} {H : Hp} {Q : VK} {E : XK} (h : sp_count_ends K vs H Q E) : vs.length = (["drawing"] : List Str).length := by
  obtain ⟨a, ns, rfl, _⟩ := h; rfl
theorem pure_count_ends {K : PySem.W.Frag} (vs : List V) (H : Hp) (Q : VK) (E : XK) (h : sp_count_ends K vs H Q E) : t_count_ends K { nx := fun _ H' => Q .non H', rt := Q } (start N_count_ends vs) H := by
  obtain ⟨a, D, rfl, hD, hl, k⟩ := h
  unfold t_count_ends
  walk_at "S"
  refine lcD hD (by omega) (fun r => (r.length : Int)) (fun r hr p H1 hp e1 R k1 => ?_) fun q H1 e1 n1 h1 => ?_
  · walk_at "S"
    exact a_len hp (k1 H1 (Ex.refl H1))
  · walk_at "S"
    refine a_sum h1 ?_
    have e : (D.map fun r => (r.length : Int)).sum = ((D.flatten.length : Nat) : Int) := by
      clear k h1 hD hl
      induction D with
      | nil => rfl
      | cons r D ih => rw [List.map_cons, List.sum_cons, ih, List.flatten_cons, List.length_append]; omega
    rw [e]
    exact k H1 e1

section
variable {P : Program} {w : World} {K : PySem.W.Frag} {mg : Str → Option Value} {base : Heap}
theorem sc_count_ends : FnScope N_count_ends ["drawing"] (defScope s_count_ends) := ⟨rfl, rfl, rfl, by decide +kernel, rfl, by decide +kernel, by decide +kernel⟩
theorem cal_count_ends (B : Blt mg) (D : Dfn K mg "count_ends" s_count_ends ["drawing"])  : Cal P w K mg base CX0 1 "count_ends" ["drawing"] (sp_count_ends K) := by
  refine cal_mk D fun f fd F => F.ok sc_count_ends (fun vs H Q E h => len_count_ends h) (fun cdv A outer s H vs Q E hr h => ⟨t_count_ends K, ?_, pure_count_ends vs H Q E h⟩)
  have hu := hu_of hr
  exact (pss_one (ps_ret (pe_callB (cr_sum rfl) (by rfl) B.sum_ (by decide +kernel) (pa_cons (pe_lc (own := [("row", 1)]) (g := gName 1) rfl sc_count_ends.nd (pi_list (pv 0)) (blkOk_by (own := [("row", 1)]) (N := N_count_ends) (sc := (defScope s_count_ends)) (by decide +kernel)) (fun _ _ _ _ _ => pg_name (i := 1) sc_count_ends.nd rfl (Or.inl rfl)) (fun _ _ _ _ _ => pts_nil) (fun _ _ _ _ _ => (pe_callB call_len_seq (by rfl) B.len_ PySem.boot_len (pa_cons (pv 1) pa_nil)))) pa_nil))))
end

abbrev s_seats_of : Stmt := top 5
abbrev N_seats_of : List Str := ["drawing", "seats", "place", "row", "end"]
-- slots: 0 drawing, 1 seats, 2 place, 3 row, 4 end
def t_seats_of (K : PySem.W.Frag) : TS :=
  (tSeq (tAsg (tOp rRep (tLst (tCons (tC (.int 0)) tNil)) (tCal (sp_count_ends K) (tCons (tVar 0) tNil))) (gName 1))
        (tSeq (tFor (iEnum K (tCons (tVar 0) tNil)) (gTup K 2 (gCons (gName 2) (gCons (gName 3) gNil))) (tFor (iList K (tVar 3)) (gName 4) (tAsg (tVar 2) (gSub (tVar 1) (tVar 4) rSetL))))
        (tRet (tVar 1))))
theorem len_seats_of {K : PySem.W.Frag} {vs : List V} {H : Hp} {Q : VK} {E : XK} (h : sp_seats_of K vs H Q E) : vs.length = (["drawing"] : List Str).length := by
  obtain ⟨a, D, m, rfl, _⟩ := h; rfl
/-- the list of places, rows before i done, and t ends of row i -/
def SeatsTo (D : Dr) (m i t : Nat) (ns : List Int) : Prop := ns.length = 2 * m ∧ ∀ e : Nat, e < 2 * m → (seat D (e : Int) < i ∨ (seat D (e : Int) = i ∧ ∃ j : Nat, j < t ∧ (D.getD i [])[j]? = some (e : Int))) → ns[e]? = some ((seat D (e : Int) : Nat) : Int)
theorem seats_done {D : Dr} {m : Nat} {ns : List Int} (V : Valid D m) (h : SeatsTo D m D.length 0 ns) : ns = seatsL D m := by
  apply List.ext_getElem?
  intro i
  by_cases hi : i < 2 * m
  · rw [h.2 i hi (.inl (seat_lt (V.mem (by omega) (by omega))))]
    unfold seatsL
    rw [List.getElem?_map, List.getElem?_range hi]; rfl
  · rw [List.getElem?_eq_none (by rw [h.1]; omega)]
    unfold seatsL
    rw [List.getElem?_eq_none (by rw [List.length_map, List.length_range]; omega)]
theorem seats_row {D : Dr} {m i : Nat} {r ns : List Int} (V : Valid D m) (hr : D[i]? = some r) (h : SeatsTo D m i r.length ns) : SeatsTo D m (i + 1) 0 ns := by
  refine ⟨h.1, fun e he hc => h.2 e he ?_⟩
  rcases hc with hc | ⟨_, j, hj, _⟩
  · by_cases hlt : seat D (e : Int) < i
    · exact .inl hlt
    · have es : seat D (e : Int) = i := by omega
      refine .inr ⟨es, ?_⟩
      obtain ⟨r', hr', hm⟩ := seat_at (V.mem (e := (e : Int)) (by omega) (by omega))
      rw [es, hr] at hr'
      cases hr'
      obtain ⟨j, hj⟩ := List.mem_iff_getElem?.mp hm
      exact ⟨j, (List.getElem?_eq_some_iff.mp hj).1, by rw [getD_of hr]; exact hj⟩
  · omega
theorem seats_end {D : Dr} {m i t : Nat} {z : Int} {r ns : List Int} (V : Valid D m) (hr : D[i]? = some r) (hz : r[t]? = some z) (h : SeatsTo D m i t ns) : SeatsTo D m i (t + 1) (ns.set z.toNat ((i : Nat) : Int)) := by
  have hzm : z ∈ r := List.mem_of_getElem? hz
  have hzr := V.rg z (mem_flat.mpr ⟨i, r, hr, hzm⟩)
  have hsz := seat_of V.nd hr hzm
  refine ⟨by rw [List.length_set]; exact h.1, fun e he hc => ?_⟩
  by_cases hez : e = z.toNat
  · have ez : ((z.toNat : Nat) : Int) = z := Int.toNat_of_nonneg hzr.1
    rw [hez, List.getElem?_set_self (by rw [h.1]; omega), ez, hsz]
  · rw [List.getElem?_set_ne (fun q => hez q.symm)]
    refine h.2 e he ?_
    rcases hc with hc | ⟨es, j, hj, hje⟩
    · exact .inl hc
    · refine .inr ⟨es, j, ?_, hje⟩
      by_cases hjt : j = t
      · subst hjt
        rw [getD_of hr, hz] at hje
        cases hje
        exact absurd (by omega) hez
      · omega
theorem pure_seats_of {K : PySem.W.Frag} (vs : List V) (H : Hp) (Q : VK) (E : XK) (h : sp_seats_of K vs H Q E) : t_seats_of K { nx := fun _ H' => Q .non H', rt := Q } (start N_seats_of vs) H := by
  obtain ⟨a, D, m, rfl, hD, V, hm, hl, k⟩ := h
  unfold t_seats_of
  walk_at "S"
  refine new1 fun p0 H0 e0 n0 h0 => ?_
  walk_at "S"
  refine ⟨a, D, rfl, hD.ex' e0, by omega, fun H1 e1 => ?_⟩
  walk_at "S"
  rw [V.ln]
  refine a_rep (h0.ex e1) (by omega) fun p H2 e2 n2 h2 => ?_
  have e02 := (e0.trans e1).trans e2
  have np : H p = none := ex_back (e0.trans e1) n2
  walk_at "S"
  refine forED hD (fun i σ H' => ∃ y2 y3 y4, σ = [some (.ref a), some (.ref p), y2, y3, y4] ∧ Ex H H' ∧ ∃ ns, IsI H' p ns ∧ SeatsTo D m i 0 ns) ⟨none, none, none, rfl, e02, _, h2, List.length_replicate, fun e he hc => by rcases hc with hc | ⟨_, j, hj, _⟩ <;> omega⟩ (fun i σ H' ⟨_, _, _, _, e, _⟩ => e) ?_ ?_
  · rintro i q r σ H3 H4 hr hq e3 ⟨y2, y3, y4, rfl, _, ns, hn, hs⟩ e4
    walk_at "S"
    refine forI hq (fun t σ H' => ∃ y4, σ = [some (.ref a), some (.ref p), some (.int (i : Int)), some (.ref q), y4] ∧ Ex H H' ∧ ∃ ns, IsI H' p ns ∧ SeatsTo D m i t ns) ⟨y4, rfl, e3.trans e4, ns, hn.ex e4, hs⟩ (fun i σ H' ⟨_, _, e, _⟩ => e) ?_ ?_
    · rintro t z σ H5 hz e5 ⟨y4, rfl, _, ns, hn, hs⟩
      have hzm : z ∈ r := List.mem_of_getElem? hz
      have hzr := V.rg z (mem_flat.mpr ⟨i, r, hr, hzm⟩)
      walk_at "S"
      have ez : z = ((z.toNat : Nat) : Int) := by omega
      rw [ez]
      refine a_set hn (by rw [hs.1]; omega) ?_
      exact ⟨_, rfl, ex_mut e5 np, _, upd_same, seats_end V hr hz hs⟩
    · rintro σ H5 ⟨y4, rfl, e5, ns, hn, hs⟩
      exact ⟨_, _, _, rfl, e5, ns, hn, seats_row V hr hs⟩
  · rintro σ H3 ⟨y2, y3, y4, rfl, e3, ns, hn, hs⟩
    walk_at "S"
    exact k H3 p ns e3 np hn (seats_done V hs)

section
variable {P : Program} {w : World} {K : PySem.W.Frag} {mg : Str → Option Value} {base : Heap}
theorem sc_seats_of : FnScope N_seats_of ["drawing"] (defScope s_seats_of) := ⟨rfl, rfl, rfl, by decide +kernel, rfl, by decide +kernel, by decide +kernel⟩
theorem cal_seats_of (B : Blt mg) (D : Dfn K mg "seats_of" s_seats_of ["drawing"]) (C_count_ends : Cal P w K mg base CX0 1 "count_ends" ["drawing"] (sp_count_ends K)) : Cal P w K mg base CX0 2 "seats_of" ["drawing"] (sp_seats_of K) := by
  refine cal_mk D fun f fd F => F.ok sc_seats_of (fun vs H Q E h => len_seats_of h) (fun cdv A outer s H vs Q E hr h => ⟨t_seats_of K, ?_, pure_seats_of vs H Q E h⟩)
  have hu := hu_of hr
  exact (pss_cons (ps_set (i := 1) sc_seats_of.nd rfl (Or.inl rfl) (pe_op op_rep (pe_lst (pa_cons pe_int pa_nil)) (pe_cal C_count_ends hr (by decide) (by rfl) (pa_cons (pv 0) pa_nil))))
        (pss_cons (ps_for PassesOwn.never rfl (pi_enum (by rfl) B.enumerate_ (pa_cons (pv 0) pa_nil)) (pg_tup rfl (pgs_cons (pg_name (i := 2) sc_seats_of.nd rfl (Or.inl rfl)) (pgs_cons (pg_name (i := 3) sc_seats_of.nd rfl (Or.inl rfl)) pgs_nil))) (pss_one (ps_for PassesOwn.never rfl (pi_list (pv 3)) (pg_name (i := 4) sc_seats_of.nd rfl (Or.inl rfl)) (pss_one (ps_asg (pv 2) (pg_sub (pv 1) (pv 4) set_list))))))
        (pss_one (ps_ret (pv 1)))))
end

abbrev s_is_walk : Stmt := top 11
abbrev N_is_walk : List Str := ["drawing", "ends", "seats", "end", "at"]
-- slots: 0 drawing, 1 ends, 2 seats, 3 end, 4 at
def t_is_walk (K : PySem.W.Frag) : TS :=
  (tSeq (tAsg (tCal (sp_seats_of K) (tCons (tVar 0) tNil)) (gName 2))
        (tSeq (tFor (iList K (tVar 1)) (gName 3) (tIfS (tOr (tTest (tOp rLt (tVar 3) (tC (.int 0)))) (tTest (tOp rGe (tVar 3) (tCB (bLen K) (tCons (tVar 2) tNil))))) (tRet (tC (.bl false))) tNext))
        (tSeq (tFor (iEnum K (tCons (tVar 1) tNil)) (gTup K 2 (gCons (gName 4) (gCons (gName 3) gNil))) (tIfS (tTest (tOp rNe (tOp (rIxL K) (tVar 2) (tCal (sp_mate_of K) (tCons (tOp (rIxL K) (tVar 1) (tOp rSub (tVar 4) (tC (.int 1)))) tNil))) (tOp (rIxL K) (tVar 2) (tVar 3)))) (tRet (tC (.bl false))) tNext))
        (tRet (tC (.bl true))))))
theorem len_is_walk {K : PySem.W.Frag} {vs : List V} {H : Hp} {Q : VK} {E : XK} (h : sp_is_walk K vs H Q E) : vs.length = (["drawing", "ends"] : List Str).length := by
  obtain ⟨a, b, D, m, T, rfl, _⟩ := h; rfl
theorem prv_mem {T : List Int} {i : Nat} (h : i < T.length) : prv T i ∈ T := by
  unfold prv
  have hl : (if i = 0 then T.length - 1 else i - 1) < T.length := by split <;> omega
  rw [List.getD_eq_getElem?_getD, List.getElem?_eq_getElem hl]
  exact List.getElem_mem hl
theorem pure_is_walk {K : PySem.W.Frag} (vs : List V) (H : Hp) (Q : VK) (E : XK) (h : sp_is_walk K vs H Q E) : t_is_walk K { nx := fun _ H' => Q .non H', rt := Q } (start N_is_walk vs) H := by
  obtain ⟨a, b, D, m, T, rfl, hD, hv, hm, hl, hT, htl, k⟩ := h
  unfold t_is_walk
  walk_at "S"
  refine ⟨a, D, m, rfl, hD, hv, hm, hl, fun H1 s ns e1 _ hs hns => ?_⟩
  subst hns
  walk_at "S"
  refine forI hT (fun i σ H' => ∃ y, σ = [some (.ref a), some (.ref b), some (.ref s), y, none] ∧ Ex H H' ∧ IsI H' s (seatsL D m) ∧ ∀ t z, t < i → T[t]? = some z → 0 ≤ z ∧ z < 2 * m) ⟨_, rfl, e1, hs, fun t z ht => absurd ht (Nat.not_lt_zero t)⟩ (fun i σ H' ⟨_, _, e, _⟩ => e) ?_ ?_
  · rintro i z σ H2 hz e2 ⟨y, rfl, _, hs2, hr⟩
    walk_at "S"
    refine iteD (fun c => ?_) (fun c => ?_)
    · rw [if_pos rfl]
      walk_at "S"
      exact k H2 false e2 (ffalse fun q => by have := (q.rg z (List.mem_of_getElem? hz)); omega)
    · walk_at "S"
      refine a_len hs2 ?_
      walk_at "S"
      rw [len_seatsL]
      refine iteD (fun c2 => ?_) (fun c2 => ?_)
      · walk_at "S"
        exact k H2 false e2 (ffalse fun q => by have := (q.rg z (List.mem_of_getElem? hz)); omega)
      · walk_at "S"
        refine ⟨_, rfl, e2, hs2, fun t w ht hw => ?_⟩
        by_cases htt : t = i
        · subst htt
          rw [hz] at hw
          cases hw
          omega
        · exact hr t w (by omega) hw
  · rintro σ H2 ⟨y, rfl, e2, hs2, hr⟩
    have hrg : ∀ z ∈ T, 0 ≤ z ∧ z < 2 * (m : Int) := fun z hz => by
      obtain ⟨t, ht⟩ := List.mem_iff_getElem?.mp hz
      exact hr t z (List.getElem?_eq_some_iff.mp ht).1 ht
    walk_at "S"
    refine forEI hT (fun i σ H' => ∃ y z, σ = [some (.ref a), some (.ref b), some (.ref s), y, z] ∧ Ex H H' ∧ IsI H' s (seatsL D m) ∧ ∀ t, t < i → seat D (mt (prv T t)) = seat D (T.getD t 0)) ⟨_, _, rfl, e2, hs2, fun t ht => absurd ht (Nat.not_lt_zero t)⟩ (fun i σ H' ⟨_, _, _, e, _⟩ => e) ?_ ?_
    · rintro i z σ H3 H4 hz e3 ⟨y, z', rfl, _, hs3, hw⟩ e4
      have hi : i < T.length := (List.getElem?_eq_some_iff.mp hz).1
      have hp := hrg _ (prv_mem hi)
      have hzz := hrg z (List.mem_of_getElem? hz)
      walk_at "S"
      refine a_prev (hT.ex (e3.trans e4)) hi ?_
      walk_at "S"
      refine a_seat (hs3.ex e4) (mt_lo hp.1) (mt_hi hp.2) ?_
      walk_at "S"
      refine a_seat (hs3.ex e4) hzz.1 hzz.2 ?_
      walk_at "S"
      refine iteNe (fun c => ?_) (fun c => ?_)
      · walk_at "S"
        refine k H4 false (e3.trans e4) (ffalse fun q => ?_)
        have := q.st i hi
        rw [getD_of hz] at this
        exact absurd (congrArg (fun n : Nat => (n : Int)) this) c
      · walk_at "S"
        refine ⟨_, _, rfl, e3.trans e4, hs3.ex e4, fun t ht => ?_⟩
        by_cases htt : t = i
        · subst htt
          rw [getD_of hz]
          omega
        · exact hw t (by omega)
    · rintro σ H3 ⟨y, z', rfl, e3, hs3, hw⟩
      walk_at "S"
      exact k H3 true e3 (ftrue ⟨hrg, fun i hi => hw i hi⟩)

section
variable {P : Program} {w : World} {K : PySem.W.Frag} {mg : Str → Option Value} {base : Heap}
theorem sc_is_walk : FnScope N_is_walk ["drawing", "ends"] (defScope s_is_walk) := ⟨rfl, rfl, rfl, by decide +kernel, rfl, by decide +kernel, by decide +kernel⟩
theorem cal_is_walk (B : Blt mg) (D : Dfn K mg "is_walk" s_is_walk ["drawing", "ends"]) (C_seats_of : Cal P w K mg base CX0 2 "seats_of" ["drawing"] (sp_seats_of K)) (C_mate_of : Cal P w K mg base CX0 1 "mate_of" ["end"] (sp_mate_of K)) : Cal P w K mg base CX0 3 "is_walk" ["drawing", "ends"] (sp_is_walk K) := by
  refine cal_mk D fun f fd F => F.ok sc_is_walk (fun vs H Q E h => len_is_walk h) (fun cdv A outer s H vs Q E hr h => ⟨t_is_walk K, ?_, pure_is_walk vs H Q E h⟩)
  have hu := hu_of hr
  exact (pss_cons (ps_set (i := 2) sc_is_walk.nd rfl (Or.inl rfl) (pe_cal C_seats_of hr (by decide) (by rfl) (pa_cons (pv 0) pa_nil)))
        (pss_cons (ps_for PassesOwn.never rfl (pi_list (pv 1)) (pg_name (i := 3) sc_is_walk.nd rfl (Or.inl rfl)) (pss_one (ps_if (PW.pt (pw_or (pt_cmpR op_lt (pv 3) pe_int (nomark _)) (pw_or1 (pt_cmpR op_ge (pv 3) (pe_callB call_len_seq (by rfl) B.len_ PySem.boot_len (pa_cons (pv 2) pa_nil)) (nomark _))))) (pss_one (ps_ret pe_bl)) pss_nil)))
        (pss_cons (ps_for PassesOwn.never rfl (pi_enum (by rfl) B.enumerate_ (pa_cons (pv 1) pa_nil)) (pg_tup rfl (pgs_cons (pg_name (i := 4) sc_is_walk.nd rfl (Or.inl rfl)) (pgs_cons (pg_name (i := 3) sc_is_walk.nd rfl (Or.inl rfl)) pgs_nil))) (pss_one (ps_if (pt_cmpR op_ne (pe_ix ix_list (pv 2) (pe_cal C_mate_of hr (by decide) (by rfl) (pa_cons (pe_ix ix_list (pv 1) (pe_op op_sub (pv 4) pe_int) (fun _ _ => rfl)) pa_nil)) (fun _ _ => rfl)) (pe_ix ix_list (pv 2) (pv 3) (fun _ _ => rfl)) (nomark _)) (pss_one (ps_ret pe_bl)) pss_nil)))
        (pss_one (ps_ret pe_bl)))))
end

abbrev s_is_round : Stmt := top 12
abbrev N_is_round : List Str := ["drawing", "ends", "seats", "places", "ties", "end"]
-- slots: 0 drawing, 1 ends, 2 seats, 3 places, 4 ties, 5 end
def t_is_round (K : PySem.W.Frag) : TS :=
  (tSeq (tIfS (tOr (tTest (tOp rEq (tCB (bLen K) (tCons (tVar 1) tNil)) (tC (.int 0)))) (tNot (tB (tCal (sp_is_walk K) (tCons (tVar 0) (tCons (tVar 1) tNil)))))) (tRet (tC (.bl false))) tNext)
        (tSeq (tAsg (tCal (sp_seats_of K) (tCons (tVar 0) tNil)) (gName 2))
        (tSeq (tAsg tDNewK (gName 3))
        (tSeq (tAsg tDNewK (gName 4))
        (tSeq (tFor (iList K (tVar 1)) (gName 5) (tSeq (tIfS (tOr (tB (tDIn (tOp (rIxL K) (tVar 2) (tVar 5)) (tVar 3))) (tB (tDIn (tOp rDiv (tVar 5) (tC (.int 2))) (tVar 4)))) (tRet (tC (.bl false))) tNext)
          (tSeq (sDPut (tVar 3) (tOp (rIxL K) (tVar 2) (tVar 5)) (tC (.bl true)))
          (sDPut (tVar 4) (tOp rDiv (tVar 5) (tC (.int 2))) (tC (.bl true))))))
        (tRet (tC (.bl true))))))))
theorem len_is_round {K : PySem.W.Frag} {vs : List V} {H : Hp} {Q : VK} {E : XK} (h : sp_is_round K vs H Q E) : vs.length = (["drawing", "ends"] : List Str).length := by
  obtain ⟨a, b, D, m, T, rfl, _⟩ := h; rfl
/-- the keys are the first i of a list -/
def KeysTo (g : Int → Option V) (l : List Int) (i : Nat) : Prop := ∀ z, (g z).isSome = true ↔ z ∈ l.take i
theorem keys_put {g : Int → Option V} {l : List Int} {i : Nat} {z : Int} {v : V} (h : KeysTo g l i) (hz : l[i]? = some z) : KeysTo (putT g z v) l (i + 1) := fun w => by
  rw [List.take_add_one, hz, List.mem_append]
  unfold putT
  by_cases e : w = z
  · subst e; rw [if_pos rfl]; exact ⟨fun _ => .inr (List.mem_singleton.mpr rfl), fun _ => rfl⟩
  · rw [if_neg e, h w]
    exact ⟨.inl, fun q => q.elim id fun q => absurd (List.mem_singleton.mp q) e⟩
theorem nodup_take {l : List Int} {i : Nat} {z : Int} (h : (l.take i).Nodup) (hz : l[i]? = some z) (n : z ∉ l.take i) : (l.take (i + 1)).Nodup := by
  rw [List.take_add_one, hz]
  refine List.nodup_append.mpr ⟨h, by simp, fun a ha b hb => ?_⟩
  rw [List.mem_singleton.mp hb]
  rintro rfl
  exact n ha
theorem not_nodup {l : List Int} {i : Nat} {z : Int} (hz : l[i]? = some z) (n : z ∈ l.take i) : ¬ l.Nodup := fun h => by
  obtain ⟨j, hj⟩ := List.mem_iff_getElem?.mp n
  rw [List.getElem?_take] at hj
  by_cases hji : j < i
  · rw [if_pos hji] at hj
    obtain ⟨h1, h2⟩ := List.getElem?_eq_some_iff.mp hj
    obtain ⟨h3, h4⟩ := List.getElem?_eq_some_iff.mp hz
    exact List.pairwise_iff_getElem.mp h j i h1 h3 hji (h2.trans h4.symm)
  · rw [if_neg hji] at hj; cases hj
theorem nodup_cast {l : List Int} {s : Int → Nat} : (l.map fun e => ((s e : Nat) : Int)).Nodup ↔ (l.map s).Nodup := by
  rw [List.nodup_iff_pairwise_ne, List.nodup_iff_pairwise_ne, List.pairwise_map, List.pairwise_map]
  exact ⟨fun h => h.imp fun {a b} q e => q (congrArg _ e), fun h => h.imp fun {a b} q e => q (by omega)⟩
theorem pure_is_round {K : PySem.W.Frag} (vs : List V) (H : Hp) (Q : VK) (E : XK) (h : sp_is_round K vs H Q E) : t_is_round K { nx := fun _ H' => Q .non H', rt := Q } (start N_is_round vs) H := by
  obtain ⟨a, b, D, m, T, rfl, hD, hv, hm, hl, hT, htl, k⟩ := h
  unfold t_is_round
  walk_at "S"
  refine a_len hT ?_
  walk_at "S"
  refine iteEq (fun c => ?_) (fun c => ?_)
  · rw [if_pos rfl]
    walk_at "S"
    exact k H false (Ex.refl H) (ffalse fun q => q.ne (List.length_eq_zero_iff.mp (by omega)))
  walk_at "S"
  refine ⟨a, b, D, m, T, rfl, hD, hv, hm, hl, hT, htl, fun H1 c1 e1 hc1 => ?_⟩
  walk_at "S"
  refine iteBn (fun c2 => ?_) (fun c2 => ?_)
  · walk_at "S"
    refine k H1 false e1 (ffalse fun q => ?_)
    rw [hc1.mpr q.wk] at c2
    cases c2
  have hw : IsWalk D m T := hc1.mp c2
  walk_at "S"
  refine ⟨a, D, m, rfl, hD.ex' e1, hv, hm, hl, fun H2 s ns e2 _ hs hns => ?_⟩
  subst hns
  walk_at "S"
  refine s_dnew fun p H3 e3 n3 h3 => ?_
  walk_at "S"
  refine s_dnew fun t H4 e4 n4 h4 => ?_
  walk_at "S"
  have e03 := (e1.trans e2).trans e3
  have np : H p = none := ex_back (e1.trans e2) n3
  have nt : H t = none := ex_back e03 n4
  have npt : t ≠ p := by rintro rfl; rw [h3] at n4; cases n4
  refine forI hT (fun i σ H' => ∃ y g1 g2, σ = [some (.ref a), some (.ref b), some (.ref s), some (.ref p), some (.ref t), y] ∧ Ex H H' ∧ IsI H' s (seatsL D m) ∧ IsT H' p g1 i ∧ IsT H' t g2 i ∧
      KeysTo g1 (T.map fun e => ((seat D e : Nat) : Int)) i ∧ KeysTo g2 (T.map (· / 2)) i ∧ ((T.map fun e => ((seat D e : Nat) : Int)).take i).Nodup ∧ ((T.map (· / 2)).take i).Nodup)
    ⟨_, _, _, rfl, e03.trans e4, hs.ex (e3.trans e4), (t_new h3).ex' e4, t_new h4, fun z => ⟨fun q => Bool.noConfusion q, fun q => by simp at q⟩, fun z => ⟨fun q => Bool.noConfusion q, fun q => by simp at q⟩, by simp, by simp⟩ (fun i σ H' ⟨_, _, _, _, e, _⟩ => e) ?_ ?_
  · rintro i z σ H5 hz e5 ⟨y, g1, g2, rfl, _, hs5, t1, t2, k1, k2, d1, d2⟩
    have hzr := hw.rg z (List.mem_of_getElem? hz)
    have hi : i < T.length := (List.getElem?_eq_some_iff.mp hz).1
    have q1 : (T.map fun e => ((seat D e : Nat) : Int))[i]? = some ((seat D z : Nat) : Int) := by rw [List.getElem?_map, hz]; rfl
    have q2 : (T.map (· / 2))[i]? = some (z / 2) := by rw [List.getElem?_map, hz]; rfl
    walk_at "S"
    refine a_seat hs5 hzr.1 hzr.2 ?_
    walk_at "S"
    refine t_in t1 ?_
    walk_at "S"
    refine iteB (fun c3 => ?_) (fun c3 => ?_)
    · rw [if_pos rfl]
      walk_at "S"
      refine k H5 false e5 (ffalse fun q => ?_)
      exact not_nodup q1 ((k1 _).mp c3) (nodup_cast.mpr q.ps)
    walk_at "S"
    rw [fdiv2]
    refine t_in t2 ?_
    walk_at "S"
    refine iteB (fun c4 => ?_) (fun c4 => ?_)
    · walk_at "S"
      refine k H5 false e5 (ffalse fun q => ?_)
      exact not_nodup q2 ((k2 _).mp c4) q.ts
    walk_at "S"
    refine a_seat hs5 hzr.1 hzr.2 ?_
    refine t_put t1 (by omega) fun o t1' => ?_
    walk_at "S"
    have ns1 : s ≠ p := by
      obtain ⟨kvs, q, _⟩ := t1.ex
      rintro rfl
      rw [show H5 s = _ from hs5] at q; cases q
    have ns2 : s ≠ t := by
      obtain ⟨kvs, q, _⟩ := t2.ex
      rintro rfl
      rw [show H5 s = _ from hs5] at q; cases q
    have t2' : IsT (upd H5 p o) t g2 i := by
      obtain ⟨kvs, q, r⟩ := t2.ex
      exact ⟨⟨kvs, by rw [upd_ne npt]; exact q, r⟩⟩
    rw [fdiv2]
    refine t_put t2' (by omega) fun o2 t2'' => ?_
    have t1'' : IsT (upd (upd H5 p o) t o2) p (putT g1 ((seat D z : Nat) : Int) (.bl true)) (i + 1) := by
      obtain ⟨kvs, q, r⟩ := t1'.ex
      exact ⟨⟨kvs, by rw [upd_ne npt.symm]; exact q, r⟩⟩
    refine ⟨_, _, _, rfl, ex_mut (ex_mut e5 np) nt, ?_, t1'', t2'', keys_put k1 q1, keys_put k2 q2, nodup_take d1 q1 fun q => ?_, nodup_take d2 q2 fun q => ?_⟩
    · show (upd (upd H5 p o) t o2) s = _
      rw [upd_ne ns2, upd_ne ns1]; exact hs5
    · rw [(k1 _).mpr q] at c3; cases c3
    · rw [(k2 _).mpr q] at c4; cases c4
  · rintro σ H5 ⟨y, g1, g2, rfl, e5, hs5, t1, t2, k1, k2, d1, d2⟩
    walk_at "S"
    refine k H5 true e5 (ftrue ⟨fun q => ?_, hw, nodup_cast.mp ?_, ?_⟩)
    · subst q; exact c rfl
    · rw [List.take_of_length_le (by rw [List.length_map]; exact Nat.le_refl _)] at d1; exact d1
    · rw [List.take_of_length_le (by rw [List.length_map]; exact Nat.le_refl _)] at d2; exact d2

section
variable {P : Program} {w : World} {K : PySem.W.Frag} {mg : Str → Option Value} {base : Heap}
theorem sc_is_round : FnScope N_is_round ["drawing", "ends"] (defScope s_is_round) := ⟨rfl, rfl, rfl, by decide +kernel, rfl, by decide +kernel, by decide +kernel⟩
theorem cal_is_round (B : Blt mg) (D : Dfn K mg "is_round" s_is_round ["drawing", "ends"]) (C_is_walk : Cal P w K mg base CX0 3 "is_walk" ["drawing", "ends"] (sp_is_walk K)) (C_seats_of : Cal P w K mg base CX0 2 "seats_of" ["drawing"] (sp_seats_of K)) : Cal P w K mg base CX0 4 "is_round" ["drawing", "ends"] (sp_is_round K) := by
  refine cal_mk D fun f fd F => F.ok sc_is_round (fun vs H Q E h => len_is_round h) (fun cdv A outer s H vs Q E hr h => ⟨t_is_round K, ?_, pure_is_round vs H Q E h⟩)
  have hu := hu_of hr
  exact (pss_cons (ps_if (PW.pt (pw_or (pt_cmpR op_eq (pe_callB call_len_seq (by rfl) B.len_ PySem.boot_len (pa_cons (pv 1) pa_nil)) pe_int (nomark _)) (pw_or1 (pt_not (pt_val (pe_cal C_is_walk hr (by decide) (by rfl) (pa_cons (pv 0) (pa_cons (pv 1) pa_nil)))))))) (pss_one (ps_ret pe_bl)) pss_nil)
        (pss_cons (ps_set (i := 2) sc_is_round.nd rfl (Or.inl rfl) (pe_cal C_seats_of hr (by decide) (by rfl) (pa_cons (pv 0) pa_nil)))
        (pss_cons (ps_set (i := 3) sc_is_round.nd rfl (Or.inl rfl) pe_dnewK)
        (pss_cons (ps_set (i := 4) sc_is_round.nd rfl (Or.inl rfl) pe_dnewK)
        (pss_cons (ps_for PassesOwn.never rfl (pi_list (pv 1)) (pg_name (i := 5) sc_is_round.nd rfl (Or.inl rfl)) (pss_cons (ps_if (PW.pt (pw_or (pt_cmp (pc_din hu (pe_ix ix_list (pv 2) (pv 5) (fun _ _ => rfl)) (pv 3))) (pw_or1 (pt_cmp (pc_din hu (pe_op op_fdivN (pv 5) pe_int) (pv 4)))))) (pss_one (ps_ret pe_bl)) pss_nil)
          (pss_cons (ps_dput hu (pv 3) (pe_ix ix_list (pv 2) (pv 5) (fun _ _ => rfl)) pe_bl rfl)
          (pss_one (ps_dput hu (pv 4) (pe_op op_fdivN (pv 5) pe_int) pe_bl rfl)))))
        (pss_one (ps_ret pe_bl)))))))
end

abbrev s_ask_round : Stmt := top 13
abbrev N_ask_round : List Str := ["drawing", "ends"]
-- slots: 0 drawing, 1 ends
def t_ask_round (K : PySem.W.Frag) : TS :=
  (tIfS (tNot (tB (tCal (sp_is_round K) (tCons (tVar 0) (tCons (tVar 1) tNil))))) tNever tNext)
theorem len_ask_round {K : PySem.W.Frag} {vs : List V} {H : Hp} {Q : VK} {E : XK} (h : sp_ask_round K vs H Q E) : vs.length = (["drawing", "ends"] : List Str).length := by
  obtain ⟨a, b, D, m, T, rfl, _⟩ := h; rfl
theorem pure_ask_round {K : PySem.W.Frag} (vs : List V) (H : Hp) (Q : VK) (E : XK) (h : sp_ask_round K vs H Q E) : t_ask_round K { nx := fun _ H' => Q .non H', rt := Q } (start N_ask_round vs) H := by
  obtain ⟨a, b, D, m, T, rfl, hD, hv, hm, hl, hT, htl, ht, k⟩ := h
  unfold t_ask_round
  walk_at "S"
  refine ⟨a, b, D, m, T, rfl, hD, hv, hm, hl, hT, htl, fun H1 c1 e1 hc1 => ?_⟩
  walk_at "S"
  refine iteBn (fun c2 => ?_) (fun c2 => ?_)
  · rw [hc1.mpr ht] at c2
    cases c2
  · walk_at "S"
    exact k H1 e1

section
variable {P : Program} {w : World} {K : PySem.W.Frag} {mg : Str → Option Value} {base : Heap}
theorem sc_ask_round : FnScope N_ask_round ["drawing", "ends"] (defScope s_ask_round) := ⟨rfl, rfl, rfl, by decide +kernel, rfl, by decide +kernel, by decide +kernel⟩
theorem cal_ask_round (B : Blt mg) (D : Dfn K mg "ask_round" s_ask_round ["drawing", "ends"]) (C_is_round : Cal P w K mg base CX0 4 "is_round" ["drawing", "ends"] (sp_is_round K)) : Cal P w K mg base CX0 5 "ask_round" ["drawing", "ends"] (sp_ask_round K) := by
  refine cal_mk D fun f fd F => F.ok sc_ask_round (fun vs H Q E h => len_ask_round h) (fun cdv A outer s H vs Q E hr h => ⟨t_ask_round K, ?_, pure_ask_round vs H Q E h⟩)
  have hu := hu_of hr
  exact (pss_one (ps_if (pt_not (pt_val (pe_cal C_is_round hr (by decide) (by rfl) (pa_cons (pv 0) (pa_cons (pv 1) pa_nil))))) (pss_one ps_never) pss_nil))
end

abbrev s_cut_along : Stmt := top 15
abbrev N_cut_along : List Str := ["drawing", "turn", "ends", "home", "rows", "at", "out", "ring", "cut", "before", "row"]
-- slots: 0 drawing, 1 turn, 2 ends, 3 home, 4 rows, 5 at, 6 out, 7 ring, 8 cut, 9 before, 10 row
def t_cut_along (K : PySem.W.Frag) : TS :=
  (tSeq (tIfS (tNot (tB (tCal (sp_is_round K) (tCons (tVar 0) (tCons (tVar 1) tNil))))) tNever tNext)
        (tSeq (tAsg (tCal (sp_count_ends K) (tCons (tVar 0) tNil)) (gName 2))
        (tSeq (tAsg (tCal (sp_seats_of K) (tCons (tVar 0) tNil)) (gName 3))
        (tSeq (tAsg (tLc (iList K (tVar 0)) (gName 10) tYes (tCB (bList K) (tCons (tVar 10) tNil)) [10]) (gName 4))
        (tSeq (tFor (iEnum K (tCons (tVar 1) tNil)) (gTup K 2 (gCons (gName 5) (gCons (gName 6) gNil))) (tSeq (tAsg (tCal (sp_begun_at K) (tCons (tOp (rIxL K) (tVar 0) (tOp (rIxL K) (tVar 3) (tVar 6))) (tCons (tCal (sp_mate_of K) (tCons (tOp (rIxL K) (tVar 1) (tOp rSub (tVar 5) (tC (.int 1)))) tNil)) tNil))) (gName 7))
          (tSeq (tAsg (tBM K "list" (rIndex K) (tVar 7) (tCons (tVar 6) tNil)) (gName 8))
          (tSeq (tAsg (tCal (sp_least_first K) (tCons (tSl (rSlL K) (tVar 7) tNoPart (tPart (tOp rAdd (tVar 8) (tC (.int 1))))) tNil)) (gSub (tVar 4) (tOp (rIxL K) (tVar 3) (tVar 6)) rSetL))
          (tSeq (tAsg (tOp rMod (tOp rSub (tVar 5) (tC (.int 1))) (tCB (bLen K) (tCons (tVar 1) tNil))) (gName 9))
          (tDrop (tBM K "list" rAppend (tVar 4) (tCons (tCal (sp_least_first K) (tCons (tOp rCat (tOp rCat (tLst (tCons (tOp rAdd (tVar 2) (tOp rMul (tC (.int 2)) (tVar 5))) tNil)) (tSl (rSlL K) (tVar 7) (tPart (tOp rAdd (tVar 8) (tC (.int 1)))) tNoPart)) (tLst (tCons (tOp rAdd (tOp rAdd (tVar 2) (tOp rMul (tC (.int 2)) (tVar 9))) (tC (.int 1))) tNil))) tNil)) tNil))))))))
        (tRet (tTup (tCons (tVar 4) (tCons (tCB (bList K) (tCons (tVar 1) tNil)) (tCons (tLc (iRng1 (tCons (tCB (bLen K) (tCons (tVar 1) tNil)) tNil)) (gName 5) tYes (tOp rAdd (tVar 2) (tOp rMul (tC (.int 2)) (tVar 5))) [5]) tNil))))))))))
theorem len_cut_along {K : PySem.W.Frag} {vs : List V} {H : Hp} {Q : VK} {E : XK} (h : sp_cut_along K vs H Q E) : vs.length = (["drawing", "turn"] : List Str).length := by
  obtain ⟨a, b, D, m, T, rfl, _⟩ := h; rfl
theorem before_is {i k : Nat} (h : i < k) : Int.fmod ((i : Int) - 1) (k : Int) = ((if i = 0 then k - 1 else i - 1 : Nat) : Int) := by
  rw [Int.fmod_eq_emod_of_nonneg _ (by omega)]
  by_cases h0 : i = 0
  · subst h0
    rw [if_pos rfl]
    have : ((0 : Nat) : Int) - 1 = ((k - 1 : Nat) : Int) + (-1) * (k : Int) := by omega
    rw [this, Int.add_mul_emod_self_right]
    exact Int.emod_eq_of_lt (by omega) (by omega)
  · rw [if_neg h0]
    have : (i : Int) - 1 = ((i - 1 : Nat) : Int) := by omega
    rw [this]
    exact Int.emod_eq_of_lt (by omega) (by omega)
theorem pure_cut_along {K : PySem.W.Frag} (vs : List V) (H : Hp) (Q : VK) (E : XK) (h : sp_cut_along K vs H Q E) : t_cut_along K { nx := fun _ H' => Q .non H', rt := Q } (start N_cut_along vs) H := by
  obtain ⟨a, b, D, m, T, rfl, hD, hv, hm, hl, hT, htl, ht, k⟩ := h
  have hDne : D ≠ [] := by
    rintro rfl
    obtain ⟨e, he⟩ := List.exists_mem_of_ne_nil T ht.ne
    have := ht.inD hv he
    cases this
  unfold t_cut_along
  walk_at "S"
  refine ⟨a, b, D, m, T, rfl, hD, hv, by omega, by omega, hT, htl, fun H1 c1 e1 hc1 => ?_⟩
  rw [hc1.mpr ht]
  walk_at "S"
  rw [if_neg (by decide)]
  walk_at "S"
  refine ⟨a, D, rfl, hD.ex' e1, by omega, fun H2 e2 => ?_⟩
  walk_at "S"
  refine ⟨a, D, m, rfl, hD.ex' (e1.trans e2), hv, by omega, by omega, fun H3 s ns e3 n3 hs hns => ?_⟩
  subst hns
  have e03 := (e1.trans e2).trans e3
  have ns : H s = none := ex_back (e1.trans e2) n3
  walk_at "S"
  refine lcDD (hD.ex' e03) (by omega) id (fun r hr p H4 hp e4 R k1 => ?_) fun rw H4 e4 n4 hrw => ?_
  · walk_at "S"
    exact a_list hp fun q H5 e5 n5 h5 => k1 q H5 e5 n5 h5
  rw [List.map_id] at hrw
  have nrw : H rw = none := ex_back e03 n4
  have nsrw : s ≠ rw := by rintro rfl; rw [show H3 s = _ from hs] at n4; cases n4
  walk_at "S"
  rw [hv.ln]
  have hkl : T.length ≤ D.length := by
    have := nodup_len (m := List.range D.length) ht.ps fun x hx => by
      obtain ⟨e, he, rfl⟩ := List.mem_map.mp hx
      exact List.mem_range.mpr (seat_lt (ht.inD hv he))
    rw [List.length_map, List.length_range] at this
    exact this
  refine forEI hT (fun i σ H' => ∃ C y5 y6 y7 y8 y9 y10, σ = [some (.ref a), some (.ref b), some (.int ((2 * m : Nat) : Int)), some (.ref s), some (.ref rw), y5, y6, y7, y8, y9, y10] ∧ Ex H H' ∧ IsI H' s (seatsL D m) ∧ IsD H' rw C ∧ CutTo D T m i C)
    ⟨D, _, _, _, _, _, _, rfl, e03.trans e4, hs.ex e4, hrw, cut_start⟩ (fun i σ H' ⟨_, _, _, _, _, _, _, _, e, _⟩ => e) ?_ ?_
  · rintro i z σ H5 H6 hz e5 ⟨C, y5, y6, y7, y8, y9, y10, rfl, _, hs5, hC5, hct⟩ e6
    have hi : i < T.length := (List.getElem?_eq_some_iff.mp hz).1
    have hgz : T.getD i 0 = z := getD_of hz
    have hzr := ht.wk.rg z (List.mem_of_getElem? hz)
    have hzf := ht.inD hv (List.mem_of_getElem? hz)
    have hcome := turn_come hv ht hi
    have hne := turn_ne ht hi
    rw [hgz] at hcome hne
    have hsl := seat_lt hzf
    have hrow : D[seat D z]? = some (D.getD (seat D z) []) := by rw [List.getD_eq_getElem?_getD, List.getElem?_eq_getElem hsl]; rfl
    have hrl : (D.getD (seat D z) []).length ≤ 2 * m := by
      have h1 := nodup_row hv.nd hrow
      have := nodup_len (m := D.flatten) h1 fun x hx => mem_flat.mpr ⟨_, _, hrow, hx⟩
      rw [hv.ln] at this; exact this
    have hzrow : z ∈ D.getD (seat D z) [] := mem_seat hzf
    have hC0 : C ≠ [] := by
      rintro rfl
      have := hct.len
      have := hsl
      simp at *
      omega
    walk_at "S"
    refine a_seat (hs5.ex e6) hzr.1 hzr.2 ?_
    refine a_ixD (hD.ex' (e5.trans e6)) hrow fun pr hpr => ?_
    walk_at "S"
    refine a_prev (hT.ex (e5.trans e6)) hi ?_
    walk_at "S"
    refine ⟨pr, _, _, rfl, hpr, hcome, by omega, fun H7 p7 ns7 e7 n7 h7 ⟨r, hr, hrot⟩ => ?_⟩
    subst hr
    have hzring : z ∈ mt (prv T i) :: r := by
      obtain ⟨u, w, h1, h2⟩ := hrot
      rw [h2]
      rw [h1] at hzrow
      exact (List.mem_append.mp hzrow).elim (fun q => List.mem_append_right _ q) (fun q => List.mem_append_left _ q)
    have hrlen : (mt (prv T i) :: r).length ≤ 2 * m := by
      obtain ⟨u, w, h1, h2⟩ := hrot
      rw [h2, List.length_append]
      rw [h1, List.length_append] at hrl
      omega
    walk_at "S"
    refine ⟨tyl h7, ?_⟩
    walk_at "S"
    refine a_index h7 hzring fun j hj _ => ?_
    obtain ⟨L, R, g1, g2, g3⟩ := ring_split hj hne
    have hring : Ring D T i L R := ⟨hi, by rw [hgz, ← g1]; exact hrot⟩
    have ej : (j : Int) + 1 = ((j + 1 : Nat) : Int) := by omega
    walk_at "S"
    rw [ej]
    refine a_to h7 fun p8 H8 e8 n8 h8 => ?_
    rw [g2] at h8
    have hll : (L ++ z :: R).length + 1 ≤ 2 * m := by rw [g1] at hrlen; exact hrlen
    rw [List.length_append, List.length_cons] at hll
    walk_at "S"
    refine ⟨p8, _, rfl, h8, by rw [List.length_cons, List.length_append, List.length_singleton]; omega, fun H9 p9 r1 e9 n9 h9 hp9 => ?_⟩
    have e69 := ((e6.trans e7).trans e8).trans e9
    walk_at "S"
    refine a_seat (hs5.ex e69) hzr.1 hzr.2 ?_
    refine a_setD (hC5.ex' e69) (by rw [hct.len]; omega) h9 fun o hC9 => ?_
    have e09 : Ex H (upd H9 rw o) := ex_mut (e5.trans e69) nrw
    have keep : ∀ q u, q ≠ rw → H9 q = some u → (upd H9 rw o) q = some u := fun q u hq hu => by rw [upd_ne hq]; exact hu
    have nr7 : p7 ≠ rw := isD_ne (hC5.ex' (e6.trans e7)) hC0 h7
    walk_at "S"
    refine a_len (hT.ex e09) ?_
    refine s_I (show (T.length : Int) ≠ 0 by omega) ?_
    rw [before_is hi]
    walk_at "S"
    refine ⟨tylD hC9, ?_⟩
    walk_at "S"
    refine new1 fun pA HA eA nA hA => ?_
    walk_at "S"
    rw [ej]
    have h7' : IsI (upd H9 rw o) p7 (mt (prv T i) :: r) := keep _ _ nr7 ((h7.ex e8).ex e9)
    refine a_from (h7'.ex eA) fun pB HB eB nB hB => ?_
    rw [g3] at hB
    refine a_cat (hA.ex eB) hB (by rw [List.length_singleton]; omega) fun pC HC eC nC hC => ?_
    walk_at "S"
    refine new1 fun pE HE eE nE hE => ?_
    refine a_cat (hC.ex eE) hE (by rw [List.length_append, List.length_singleton, List.length_singleton]; omega) fun pF HF eF nF hF => ?_
    refine ⟨pF, _, rfl, hF, by rw [List.length_append, List.length_append, List.length_singleton, List.length_singleton]; omega, fun HG pG r2 eG nG hG hpG => ?_⟩
    have eAG := ((((eA.trans eB).trans eC).trans eE).trans eF).trans eG
    have hC9ne : C.set (seat D z) r1 ≠ [] := by
      intro q
      have := congrArg List.length q
      rw [List.length_set] at this
      exact hC0 (List.length_eq_zero_iff.mp this)
    walk_at "S"
    refine a_appD (hC9.ex' eAG) hC9ne (by rw [List.length_set, hct.len]; omega) hG fun o2 hCG => ?_
    refine ⟨_, _, _, _, _, _, _, rfl, ex_mut (e09.trans eAG) nrw, ?_, hCG, ?_⟩
    · show (upd HG rw o2) s = _
      rw [upd_ne nsrw]
      exact eAG _ _ (keep _ _ nsrw (hs5.ex e69))
    · have := cut_step (r1 := r1) (r2 := r2) hv ht hct hring (by rw [hgz]; exact hp9) (by
        refine hpG.trans ?_
        rw [List.append_assoc, List.singleton_append]
        have q1 : (((2 * m : Nat) : Int) + 2 * (i : Int)) = (2 * (m : Int) + 2 * (i : Int)) := by omega
        have q2 : (((2 * m : Nat) : Int) + 2 * ((if i = 0 then T.length - 1 else i - 1 : Nat) : Int) + 1) = (2 * (m : Int) + 2 * ((if i = 0 then T.length - 1 else i - 1 : Nat) : Int) + 1) := by omega
        rw [q1, q2])
      rw [hgz] at this
      exact this
  · rintro σ H5 ⟨C, y5, y6, y7, y8, y9, y10, rfl, e5, hs5, hC5, hct⟩
    walk_at "S"
    refine a_list (hT.ex e5) fun pB HB eB nB hB => ?_
    walk_at "S"
    refine a_len (hT.ex (e5.trans eB)) ?_
    refine lcR1 T.length (by omega) (fun i => ((2 * m : Nat) : Int) + 2 * (i : Int)) (fun i hi H6 e6 R r => ?_) fun pC HC eC nC hC => ?_
    · walk_at "S"
      exact r H6 (Ex.refl H6)
    walk_at "S"
    refine newT (by show 3 ≤ 1000000; decide) fun pE HE eE nE hE => ?_
    exact k HE pE rw _ _ C (((e5.trans eB).trans eC).trans eE) hE (hC5.ex' ((eB.trans eC).trans eE)) (cut_done hct)

section
variable {P : Program} {w : World} {K : PySem.W.Frag} {mg : Str → Option Value} {base : Heap}
theorem sc_cut_along : FnScope N_cut_along ["drawing", "turn"] (defScope s_cut_along) := ⟨rfl, rfl, rfl, by decide +kernel, rfl, by decide +kernel, by decide +kernel⟩
theorem cal_cut_along (B : Blt mg) (D : Dfn K mg "cut_along" s_cut_along ["drawing", "turn"]) (C_is_round : Cal P w K mg base CX0 4 "is_round" ["drawing", "ends"] (sp_is_round K)) (C_count_ends : Cal P w K mg base CX0 1 "count_ends" ["drawing"] (sp_count_ends K)) (C_seats_of : Cal P w K mg base CX0 2 "seats_of" ["drawing"] (sp_seats_of K)) (C_begun_at : Cal P w K mg base CX0 1 "begun_at" ["row", "end"] (sp_begun_at K)) (C_mate_of : Cal P w K mg base CX0 1 "mate_of" ["end"] (sp_mate_of K)) (C_least_first : Cal P w K mg base CX0 1 "least_first" ["row"] (sp_least_first K)) : Cal P w K mg base CX0 5 "cut_along" ["drawing", "turn"] (sp_cut_along K) := by
  refine cal_mk D fun f fd F => F.ok sc_cut_along (fun vs H Q E h => len_cut_along h) (fun cdv A outer s H vs Q E hr h => ⟨t_cut_along K, ?_, pure_cut_along vs H Q E h⟩)
  have hu := hu_of hr
  exact (pss_cons (ps_if (pt_not (pt_val (pe_cal C_is_round hr (by decide) (by rfl) (pa_cons (pv 0) (pa_cons (pv 1) pa_nil))))) (pss_one ps_never) pss_nil)
        (pss_cons (ps_set (i := 2) sc_cut_along.nd rfl (Or.inr rfl) (pe_cal C_count_ends hr (by decide) (by rfl) (pa_cons (pv 0) pa_nil)))
        (pss_cons (ps_set (i := 3) sc_cut_along.nd rfl (Or.inl rfl) (pe_cal C_seats_of hr (by decide) (by rfl) (pa_cons (pv 0) pa_nil)))
        (pss_cons (ps_setLc (i := 4) (own := [("row", 10)]) (g := gName 10) rfl sc_cut_along.nd rfl rfl (sw_true rfl rfl rfl (by decide +kernel)) (pi_list (pv 0)) (blkOk_by (own := [("row", 10)]) (N := N_cut_along) (sc := (defScope s_cut_along)) (by decide +kernel)) (fun _ _ _ _ _ => pg_name (i := 10) sc_cut_along.nd rfl (Or.inl rfl)) (fun _ _ _ _ _ => pts_nil) (fun _ _ _ _ _ => (pe_callTy call_list_of (by rfl) B.list_ (by decide +kernel) (pa_cons (pv 10) pa_nil))))
        (pss_cons (ps_for PassesOwn.never rfl (pi_enum (by rfl) B.enumerate_ (pa_cons (pv 1) pa_nil)) (pg_tup rfl (pgs_cons (pg_name (i := 5) sc_cut_along.nd rfl (Or.inl rfl)) (pgs_cons (pg_name (i := 6) sc_cut_along.nd rfl (Or.inl rfl)) pgs_nil))) (pss_cons (ps_set (i := 7) sc_cut_along.nd rfl (Or.inl rfl) (pe_cal C_begun_at hr (by decide) (by rfl) (pa_cons (pe_ix ix_list (pv 0) (pe_ix ix_list (pv 3) (pv 6) (fun _ _ => rfl)) (fun _ _ => rfl)) (pa_cons (pe_cal C_mate_of hr (by decide) (by rfl) (pa_cons (pe_ix ix_list (pv 1) (pe_op op_sub (pv 5) pe_int) (fun _ _ => rfl)) pa_nil)) pa_nil))))
          (pss_cons (ps_set (i := 8) sc_cut_along.nd rfl (Or.inl rfl) (pe_bm PySem.F.plainAttrs_list PySem.F.slot_list_index PySem.F.type_list_index mt_index (pv 7) (pa_cons (pv 6) pa_nil)))
          (pss_cons (ps_asg (pe_cal C_least_first hr (by decide) (by rfl) (pa_cons (pe_slice sl_list (pv 7) po_none (po_some (pe_op op_add (pv 8) pe_int))) pa_nil)) (pg_sub (pv 4) (pe_ix ix_list (pv 3) (pv 6) (fun _ _ => rfl)) set_list))
          (pss_cons (ps_set (i := 9) sc_cut_along.nd rfl (Or.inl rfl) (pe_op op_modN (pe_op op_sub (pv 5) pe_int) (pe_callB call_len_seq (by rfl) B.len_ PySem.boot_len (pa_cons (pv 1) pa_nil))))
          (pss_one (ps_expr (pe_bm PySem.F.plainAttrs_list PySem.F.slot_list_append PySem.F.type_list_append mt_append (pv 4) (pa_cons (pe_cal C_least_first hr (by decide) (by rfl) (pa_cons (pe_op op_cat (pe_op op_cat (pe_lst (pa_cons (pe_op op_add (pv 2) (pe_op op_mul pe_int (pv 5))) pa_nil)) (pe_slice sl_list (pv 7) (po_some (pe_op op_add (pv 8) pe_int)) po_none)) (pe_lst (pa_cons (pe_op op_add (pe_op op_add (pv 2) (pe_op op_mul pe_int (pv 9))) pe_int) pa_nil))) pa_nil)) pa_nil)))))))))
        (pss_one (ps_ret (pe_tup (pa_cons (pv 4) (pa_cons (pe_callTy call_list_of (by rfl) B.list_ (by decide +kernel) (pa_cons (pv 1) pa_nil)) (pa_cons (pe_lc (own := [("at", 5)]) (g := gName 5) rfl sc_cut_along.nd (pi_range1 (by rfl) B.range_ (pa_cons (pe_callB call_len_seq (by rfl) B.len_ PySem.boot_len (pa_cons (pv 1) pa_nil)) pa_nil)) (blkOk_by (own := [("at", 5)]) (N := N_cut_along) (sc := (defScope s_cut_along)) (by decide +kernel)) (fun _ _ _ _ _ => pg_name (i := 5) sc_cut_along.nd rfl (Or.inl rfl)) (fun _ _ _ _ _ => pts_nil) (fun _ _ _ _ _ => (pe_op op_add (pv 2) (pe_op op_mul pe_int (pv 5))))) pa_nil)))))))))))
end

abbrev s_tree_from : Stmt := top 17
abbrev N_tree_from : List Str := ["drawing", "root", "seats", "nearer", "waiting", "at", "end", "goal"]
-- slots: 0 drawing, 1 root, 2 seats, 3 nearer, 4 waiting, 5 at, 6 end, 7 goal
def t_tree_from (K : PySem.W.Frag) : TS :=
  (tSeq (tAsg (tCal (sp_seats_of K) (tCons (tVar 0) tNil)) (gName 2))
        (tSeq (tAsg (tDisp [((tVar 1), (tUn uNeg (tC (.int 1))))]) (gName 3))
        (tSeq (tAsg (tLst (tCons (tVar 1) tNil)) (gName 4))
        (tSeq (tAsg (tC (.int 0)) (gName 5))
        (tSeq (tWhile (tTest (tOp rLt (tVar 5) (tCB (bLen K) (tCons (tVar 4) tNil)))) (tSeq (tFor (iList K (tOp (rIxL K) (tVar 0) (tOp (rIxL K) (tVar 4) (tVar 5)))) (gName 6) (tSeq (tAsg (tOp (rIxL K) (tVar 2) (tCal (sp_mate_of K) (tCons (tVar 6) tNil))) (gName 7))
            (tIfS (tB (tDNotIn (tVar 7) (tVar 3))) (tSeq (sDPut (tVar 3) (tVar 7) (tCal (sp_mate_of K) (tCons (tVar 6) tNil)))
              (tDrop (tBM K "list" rAppend (tVar 4) (tCons (tVar 7) tNil)))) tNext)))
          (tAug 5 (tC (.int 1)) iAdd)))
        (tRet (tVar 3)))))))
theorem len_tree_from {K : PySem.W.Frag} {vs : List V} {H : Hp} {Q : VK} {E : XK} (h : sp_tree_from K vs H Q E) : vs.length = (["drawing", "root"] : List Str).length := by
  obtain ⟨a, D, m, r, rfl, _⟩ := h; rfl
def asT (nr : Nat → Option Int) : Int → Option V := fun z => if 0 ≤ z then (nr z.toNat).map V.int else none
theorem asT_put (nr : Nat → Option Int) (q : Nat) (v : Int) : putT (asT nr) (q : Int) (.int v) = asT (updN nr q (some v)) := by
  funext z
  unfold putT asT updN
  by_cases h : z = (q : Int)
  · subst h; rw [if_pos rfl, if_pos (by omega), Int.toNat_natCast, if_pos rfl]; rfl
  · rw [if_neg h]
    by_cases h0 : 0 ≤ z
    · rw [if_pos h0, if_pos h0, if_neg (by omega)]
    · rw [if_neg h0, if_neg h0]
theorem asT_start (r : Nat) : putT (fun _ => none) (r : Int) (.int (-1)) = asT (updN (fun _ => none) r (some (-1))) := by
  rw [← asT_put]
  congr 1
  funext z
  unfold asT; split <;> rfl
def zs (ws : List Nat) : List Int := ws.map fun n : Nat => (n : Int)
theorem zs_snoc (ws : List Nat) (q : Nat) : zs (ws ++ [q]) = zs ws ++ [(q : Int)] := by unfold zs; rw [List.map_append]; rfl
theorem zs_get {ws : List Nat} {i x : Nat} (h : ws[i]? = some x) : (zs ws)[i]? = some (x : Int) := by unfold zs; rw [List.getElem?_map, h]; rfl
theorem pure_tree_from {K : PySem.W.Frag} (vs : List V) (H : Hp) (Q : VK) (E : XK) (h : sp_tree_from K vs H Q E) : t_tree_from K { nx := fun _ H' => Q .non H', rt := Q } (start N_tree_from vs) H := by
  obtain ⟨a, D, m, r, rfl, hD, hv, hm, hl, hr, k⟩ := h
  unfold t_tree_from
  walk_at "S"
  refine ⟨a, D, m, rfl, hD, hv, hm, hl, fun H1 s ns e1 ns1 hs hns => ?_⟩
  subst hns
  walk_at "S"
  refine s_disp1 fun p H2 e2 n2 h2 => ?_
  walk_at "S"
  refine disp1 h2 fun o t0 => ?_
  rw [asT_start] at t0
  have np : H p = none := ex_back e1 n2
  have e02 : Ex H (upd H2 p o) := ex_mut (e1.trans e2) np
  have hs2 : IsI (upd H2 p o) s (seatsL D m) := by
    show (upd H2 p o) s = _
    rw [upd_ne (by rintro rfl; rw [show H1 s = _ from hs] at n2; cases n2)]
    exact e2 _ _ hs
  walk_at "S"
  refine new1 fun w H3 e3 n3 h3 => ?_
  have nw : H w = none := ex_back e02 n3
  have nwp : w ≠ p := by
    obtain ⟨kvs, q, _⟩ := t0.ex
    rintro rfl; rw [q] at n3; cases n3
  have nws : w ≠ s := by rintro rfl; rw [show (upd H2 p o) w = _ from hs2] at n3; cases n3
  walk_at "S"
  refine whileW (fun g σ H' => ∃ i ws nr d y6 y7, g = D.length - i ∧ σ = [some (.ref a), some (.int (r : Int)), some (.ref s), some (.ref p), some (.ref w), some (.int ((i : Nat) : Int)), y6, y7] ∧ Ex H H' ∧ IsI H' s (seatsL D m) ∧ IsT H' p (asT nr) ws.length ∧ IsI H' w (zs ws) ∧ Bf D r i 0 ws nr d)
    _ ⟨0, [r], _, _, _, _, rfl, rfl, e02.trans e3, hs2.ex e3, t0.ex' e3, h3, bf_start hr⟩ ?_
  rintro g σ H4 ⟨i, ws, nr, d, y6, y7, rfl, rfl, e4, hs4, t4, w4, bf⟩
  walk_at "S"
  refine a_len w4 ?_
  walk_at "S"
  have hlen : (zs ws).length = ws.length := by unfold zs; rw [List.length_map]
  rw [hlen]
  refine iteD (fun c => ?_) (fun c => ?_)
  · refine whT ?_
    have hi : i < ws.length := by omega
    obtain ⟨x, hx⟩ : ∃ x, ws[i]? = some x := ⟨_, List.getElem?_eq_getElem hi⟩
    have hxl := bf.lt x (List.mem_of_getElem? hx)
    have hbl := bf_len bf
    walk_at "S"
    refine a_ix w4 (zs_get hx) ?_
    obtain ⟨ps, q1, q2, q3⟩ := hD.ex
    have hpx : ps[x]? = some ps[x] := List.getElem?_eq_getElem (by omega)
    have hrx : D[x]? = some D[x] := List.getElem?_eq_getElem hxl
    have hgx : D.getD x [] = D[x] := getD_of hrx
    have hrowH : IsI H ps[x] D[x] := q3 x _ _ hpx hrx
    refine ⟨_, _, _, _, rfl, rfl, sq (e4 _ _ q1), atI_nat (j := x) (by rw [List.getElem?_map, hpx]; rfl), ?_⟩
    refine forI hrowH (fun t σ H' => ∃ ws nr d y6 y7, σ = [some (.ref a), some (.int (r : Int)), some (.ref s), some (.ref p), some (.ref w), some (.int ((i : Nat) : Int)), y6, y7] ∧ Ex H H' ∧ IsI H' s (seatsL D m) ∧ IsT H' p (asT nr) ws.length ∧ IsI H' w (zs ws) ∧ Bf D r i t ws nr d ∧ ws[i]? = some x)
      ⟨ws, nr, d, y6, y7, rfl, e4, hs4, t4, w4, bf, hx⟩ (fun i σ H' ⟨_, _, _, _, _, _, e, _⟩ => e) ?_ ?_
    · rintro t z σ H5 hz e5 ⟨ws, nr, d, y6, y7, rfl, _, hs5, t5, w5, bf, hx⟩
      have hzm : z ∈ D.getD x [] := by rw [hgx]; exact List.mem_of_getElem? hz
      have hzt : (D.getD x [])[t]? = some z := by rw [hgx]; exact hz
      have hzf := flat_of_getD hzm
      have hzr := hv.rg z hzf
      have hbl := bf_len bf
      walk_at "S"
      refine a_seat hs5 (mt_lo hzr.1) (mt_hi hzr.2) ?_
      walk_at "S"
      refine t_nin t5 ?_
      walk_at "S"
      have hsome : (asT nr ((seat D (mt z) : Nat) : Int)).isSome = true ↔ seat D (mt z) ∈ ws := by
        unfold asT
        rw [if_pos (by omega), Int.toNat_natCast, Option.isSome_map, ← bf.dom]
        cases nr (seat D (mt z)) <;> simp
      refine iteBn (fun c2 => ?_) (fun c2 => ?_)
      · have hq : seat D (mt z) ∉ ws := fun q => by rw [hsome.mpr q] at c2; cases c2
        walk_at "S"
        refine t_put t5 (by omega) fun o2 t6 => ?_
        rw [asT_put] at t6
        have w6 : IsI (upd H5 p o2) w (zs ws) := by
          show (upd H5 p o2) w = _
          rw [upd_ne nwp]; exact w5
        have hs6 : IsI (upd H5 p o2) s (seatsL D m) := by
          obtain ⟨kvs, q, _⟩ := t5.ex
          show (upd H5 p o2) s = _
          rw [upd_ne (by rintro rfl; rw [show H5 s = _ from hs5] at q; cases q)]; exact hs5
        walk_at "S"
        refine ⟨tyl w6, ?_⟩
        walk_at "S"
        refine a_app w6 (by unfold zs; rw [List.length_map]; omega) ?_
        have bf' := bf_new hv bf hx hzt hq
        refine ⟨ws ++ [seat D (mt z)], _, _, _, _, rfl, ex_mut (ex_mut e5 np) nw, ?_, ?_, ?_, bf', by rw [List.getElem?_append_left (List.getElem?_eq_some_iff.mp hx).1]; exact hx⟩
        · show (upd (upd H5 p o2) w _) s = _
          rw [upd_ne nws.symm]; exact hs6
        · obtain ⟨kvs, q, q'⟩ := t6.ex
          exact ⟨⟨kvs, by rw [upd_ne nwp.symm]; exact q, by rw [List.length_append, List.length_singleton]; exact q'⟩⟩
        · show (upd (upd H5 p o2) w _) w = _
          rw [upd_same, zs_snoc]
      · have hq : seat D (mt z) ∈ ws := hsome.mp c2
        walk_at "S"
        exact ⟨ws, nr, d, _, _, rfl, e5, hs5, t5, w5, bf_old bf hx hzt hq, hx⟩
    · rintro σ H5 ⟨ws, nr, d, y6, y7, rfl, e5, hs5, t5, w5, bf, hx⟩
      walk_at "S"
      refine ⟨_, ?_, i + 1, ws, nr, d, _, _, rfl, rfl, e5, hs5, t5, w5, bf_next bf hx (by rw [hgx]; exact Nat.le_refl _)⟩
      have := bf_len bf
      have := (List.getElem?_eq_some_iff.mp hx).1
      omega
  · walk_at "S"
    refine k H4 p (fun z => if 0 ≤ z then nr z.toNat else none) e4 np (t4.toM fun z => ?_) ⟨nr, d, bf_done bf (by omega), fun z => rfl⟩
    unfold asT
    split <;> rfl

section
variable {P : Program} {w : World} {K : PySem.W.Frag} {mg : Str → Option Value} {base : Heap}
theorem sc_tree_from : FnScope N_tree_from ["drawing", "root"] (defScope s_tree_from) := ⟨rfl, rfl, rfl, by decide +kernel, rfl, by decide +kernel, by decide +kernel⟩
theorem cal_tree_from (B : Blt mg) (D : Dfn K mg "tree_from" s_tree_from ["drawing", "root"]) (C_seats_of : Cal P w K mg base CX0 2 "seats_of" ["drawing"] (sp_seats_of K)) (C_mate_of : Cal P w K mg base CX0 1 "mate_of" ["end"] (sp_mate_of K)) : Cal P w K mg base CX0 3 "tree_from" ["drawing", "root"] (sp_tree_from K) := by
  refine cal_mk D fun f fd F => F.ok sc_tree_from (fun vs H Q E h => len_tree_from h) (fun cdv A outer s H vs Q E hr h => ⟨t_tree_from K, ?_, pure_tree_from vs H Q E h⟩)
  have hu := hu_of hr
  exact (pss_cons (ps_set (i := 2) sc_tree_from.nd rfl (Or.inl rfl) (pe_cal C_seats_of hr (by decide) (by rfl) (pa_cons (pv 0) pa_nil)))
        (pss_cons (ps_set (i := 3) sc_tree_from.nd rfl (Or.inl rfl) (pe_disp (pps_cons (pv 1) (pe_un un_neg pe_int) pps_nil) (by rfl) (by rfl) (fun z => by cases z) (by decide)))
        (pss_cons (ps_set (i := 4) sc_tree_from.nd rfl (Or.inl rfl) (pe_lst (pa_cons (pv 1) pa_nil)))
        (pss_cons (ps_set (i := 5) sc_tree_from.nd rfl (Or.inl rfl) pe_int)
        (pss_cons (ps_while PassesOwn.never (pt_cmpR op_lt (pv 5) (pe_callB call_len_seq (by rfl) B.len_ PySem.boot_len (pa_cons (pv 4) pa_nil)) (nomark _)) (pss_cons (ps_for PassesOwn.never rfl (pi_list (pe_ix ix_list (pv 0) (pe_ix ix_list (pv 4) (pv 5) (fun _ _ => rfl)) (fun _ _ => rfl))) (pg_name (i := 6) sc_tree_from.nd rfl (Or.inl rfl)) (pss_cons (ps_set (i := 7) sc_tree_from.nd rfl (Or.inl rfl) (pe_ix ix_list (pv 2) (pe_cal C_mate_of hr (by decide) (by rfl) (pa_cons (pv 6) pa_nil)) (fun _ _ => rfl)))
            (pss_one (ps_if (pt_cmp (pc_dnotin hu (pv 7) (pv 3))) (pss_cons (ps_dput hu (pv 3) (pv 7) (pe_cal C_mate_of hr (by decide) (by rfl) (pa_cons (pv 6) pa_nil)) rfl)
              (pss_one (ps_expr (pe_bm PySem.F.plainAttrs_list PySem.F.slot_list_append PySem.F.type_list_append mt_append (pv 4) (pa_cons (pv 7) pa_nil))))) pss_nil))))
          (pss_one (ps_aug (i := 5) sc_tree_from.nd rfl (Or.inl rfl) pe_int ip_add))))
        (pss_one (ps_ret (pv 3))))))))
end

abbrev s_way_up : Stmt := top 18
abbrev N_way_up : List Str := ["seats", "nearer", "place", "way"]
-- slots: 0 seats, 1 nearer, 2 place, 3 way
def t_way_up (K : PySem.W.Frag) : TS :=
  (tSeq (tAsg (tLst tNil) (gName 3))
        (tSeq (tWhile (tTest (tOp rGe (tDGet (tVar 1) (tVar 2)) (tC (.int 0)))) (tSeq (tDrop (tBM K "list" rAppend (tVar 3) (tCons (tDGet (tVar 1) (tVar 2)) tNil)))
          (tAsg (tOp (rIxL K) (tVar 0) (tCal (sp_mate_of K) (tCons (tDGet (tVar 1) (tVar 2)) tNil))) (gName 2))))
        (tRet (tVar 3))))
theorem len_way_up {K : PySem.W.Frag} {vs : List V} {H : Hp} {Q : VK} {E : XK} (h : sp_way_up K vs H Q E) : vs.length = (["seats", "nearer", "place"] : List Str).length := by
  obtain ⟨s, n, D, m, r, p, f, nr, d, rfl, _⟩ := h; rfl
/-- a way and one end more -/
theorem path_snoc {D : Dr} : ∀ {w : List Int} {p q : Nat} {e : Int}, Path D p w q → e ∈ D.getD q [] → Path D p (w ++ [e]) (seat D (mt e))
  | [], p, q, e, h, he => by
    have h : p = q := h
    subst h
    exact ⟨he, rfl⟩
  | x :: w, p, q, e, h, he => ⟨h.1, path_snoc h.2 he⟩
theorem pure_way_up {K : PySem.W.Frag} (vs : List V) (H : Hp) (Q : VK) (E : XK) (h : sp_way_up K vs H Q E) : t_way_up K { nx := fun _ H' => Q .non H', rt := Q } (start N_way_up vs) H := by
  obtain ⟨s, n, D, m, r, p, f, nr, d, rfl, hs, hv, hn, ht, hf, hp, hd, k⟩ := h
  unfold t_way_up
  walk_at "S"
  refine new0 fun l H1 e1 n1 h1 => ?_
  walk_at "S"
  refine whileW (fun g σ H' => ∃ x w, d x = g ∧ σ = [some (.ref s), some (.ref n), some (.int ((x : Nat) : Int)), some (.ref l)] ∧ Ex H H' ∧ IsI H' l w ∧ nr x ≠ none ∧ Path D p w x ∧ w.length + d x = d p)
    _ ⟨p, [], rfl, rfl, e1, h1, hp, rfl, by simp⟩ ?_
  · rintro g σ H' ⟨x, w, rfl, rfl, e, hw, hx, hpath, hlen⟩
    obtain ⟨y, hy⟩ : ∃ y, nr x = some y := by
      cases q : nr x with
      | none => exact absurd q hx
      | some y => exact ⟨y, rfl⟩
    have hfx : f ((x : Nat) : Int) = some y := by rw [hf, if_pos (by omega), Int.toNat_natCast]; exact hy
    walk_at "S"
    refine m_get (hn.ex' e) hfx ?_
    walk_at "S"
    refine iteD (fun c => ?_) (fun c => ?_)
    · have hxr : x ≠ r := by
        rintro rfl
        rw [ht.root] at hy
        cases hy
        exact absurd c (by decide)
      obtain ⟨u0, u1, u2, u3⟩ := ht.up x y hxr hy
      have yr := hv.rg y (flat_of_getD u1)
      refine whT ?_
      walk_at "S"
      refine ⟨tyl hw, ?_⟩
      walk_at "S"
      refine m_get (hn.ex' e) hfx ?_
      walk_at "S"
      refine a_app hw (by omega) ?_
      have e2 : Ex H (upd H' l (.lst ((w ++ [y]).map V.int))) := ex_mut e n1
      walk_at "S"
      refine m_get (hn.ex' e2) hfx ?_
      walk_at "S"
      refine a_seat (hs.ex e2) (mt_lo yr.1) (mt_hi yr.2) ?_
      exact ⟨d (seat D (mt y)), by omega, seat D (mt y), w ++ [y], rfl, rfl, e2, upd_same, u2, path_snoc hpath u1, by rw [List.length_append, List.length_singleton]; omega⟩
    · walk_at "S"
      have hxr : x = r := by
        by_cases q : x = r
        · exact q
        · exact absurd (ht.up x y q hy).1 (by omega)
      subst hxr
      refine k H' l w e n1 hw ⟨hpath, ?_⟩
      have := ht.d0
      omega

section
variable {P : Program} {w : World} {K : PySem.W.Frag} {mg : Str → Option Value} {base : Heap}
theorem sc_way_up : FnScope N_way_up ["seats", "nearer", "place"] (defScope s_way_up) := ⟨rfl, rfl, rfl, by decide +kernel, rfl, by decide +kernel, by decide +kernel⟩
theorem cal_way_up (B : Blt mg) (D : Dfn K mg "way_up" s_way_up ["seats", "nearer", "place"]) (C_mate_of : Cal P w K mg base CX0 1 "mate_of" ["end"] (sp_mate_of K)) : Cal P w K mg base CX0 2 "way_up" ["seats", "nearer", "place"] (sp_way_up K) := by
  refine cal_mk D fun f fd F => F.ok sc_way_up (fun vs H Q E h => len_way_up h) (fun cdv A outer s H vs Q E hr h => ⟨t_way_up K, ?_, pure_way_up vs H Q E h⟩)
  have hu := hu_of hr
  exact (pss_cons (ps_set (i := 3) sc_way_up.nd rfl (Or.inl rfl) (pe_lst pa_nil))
        (pss_cons (ps_while PassesOwn.never (pt_cmpR op_ge (pe_dget hu (pv 1) (pv 2) (fun _ _ => rfl)) pe_int (nomark _)) (pss_cons (ps_expr (pe_bm PySem.F.plainAttrs_list PySem.F.slot_list_append PySem.F.type_list_append mt_append (pv 3) (pa_cons (pe_dget hu (pv 1) (pv 2) (fun _ _ => rfl)) pa_nil)))
          (pss_one (ps_set (i := 2) sc_way_up.nd rfl (Or.inl rfl) (pe_ix ix_list (pv 0) (pe_cal C_mate_of hr (by decide) (by rfl) (pa_cons (pe_dget hu (pv 1) (pv 2) (fun _ _ => rfl)) pa_nil)) (fun _ _ => rfl))))))
        (pss_one (ps_ret (pv 3)))))
end

abbrev s_turned_about : Stmt := top 19
abbrev N_turned_about : List Str := ["way", "end"]
-- slots: 0 way, 1 end
def t_turned_about (K : PySem.W.Frag) : TS :=
  (tRet (tLc (iRev K (tCons (tVar 0) tNil)) (gName 1) tYes (tCal (sp_mate_of K) (tCons (tVar 1) tNil)) [1]))
theorem len_turned_about {K : PySem.W.Frag} {vs : List V} {H : Hp} {Q : VK} {E : XK} (h : sp_turned_about K vs H Q E) : vs.length = (["way"] : List Str).length := by
  obtain ⟨a, ns, rfl, _⟩ := h; rfl
theorem pure_turned_about {K : PySem.W.Frag} (vs : List V) (H : Hp) (Q : VK) (E : XK) (h : sp_turned_about K vs H Q E) : t_turned_about K { nx := fun _ H' => Q .non H', rt := Q } (start N_turned_about vs) H := by
  obtain ⟨a, ns, rfl, hI, hl, k⟩ := h
  unfold t_turned_about
  walk_at "S"
  refine lcV1 hI (by omega) mt (fun z hz H1 e1 R r => ?_) fun q H1 e1 n1 h1 => ?_
  · walk_at "S"
    exact r H1 (Ex.refl H1)
  · exact k H1 q _ e1 n1 h1 rfl

section
variable {P : Program} {w : World} {K : PySem.W.Frag} {mg : Str → Option Value} {base : Heap}
theorem sc_turned_about : FnScope N_turned_about ["way"] (defScope s_turned_about) := ⟨rfl, rfl, rfl, by decide +kernel, rfl, by decide +kernel, by decide +kernel⟩
theorem cal_turned_about (B : Blt mg) (D : Dfn K mg "turned_about" s_turned_about ["way"]) (C_mate_of : Cal P w K mg base CX0 1 "mate_of" ["end"] (sp_mate_of K)) : Cal P w K mg base CX0 2 "turned_about" ["way"] (sp_turned_about K) := by
  refine cal_mk D fun f fd F => F.ok sc_turned_about (fun vs H Q E h => len_turned_about h) (fun cdv A outer s H vs Q E hr h => ⟨t_turned_about K, ?_, pure_turned_about vs H Q E h⟩)
  have hu := hu_of hr
  exact (pss_one (ps_ret (pe_lc (own := [("end", 1)]) (g := gName 1) rfl sc_turned_about.nd (pi_reversed (by rfl) B.reversed_ (pa_cons (pv 0) pa_nil)) (blkOk_by (own := [("end", 1)]) (N := N_turned_about) (sc := (defScope s_turned_about)) (by decide +kernel)) (fun _ _ _ _ _ => pg_name (i := 1) sc_turned_about.nd rfl (Or.inl rfl)) (fun _ _ _ _ _ => pts_nil) (fun _ _ _ _ _ => (pe_cal C_mate_of hr (by decide) (by rfl) (pa_cons (pv 1) pa_nil))))))
end

abbrev s_old_end : Stmt := top 21
abbrev N_old_end : List Str := ["turn", "ties", "end", "one"]
-- slots: 0 turn, 1 ties, 2 end, 3 one
def t_old_end (K : PySem.W.Frag) : TS :=
  (tSeq (tIfS (tTest (tOp rLt (tVar 2) (tOp rMul (tC (.int 2)) (tVar 1)))) (tRet (tVar 2)) tNext)
        (tSeq (tAsg (tOp (rIxL K) (tVar 0) (tOp rDiv (tOp rSub (tVar 2) (tOp rMul (tC (.int 2)) (tVar 1))) (tC (.int 2)))) (gName 3))
        (tSeq (tIfS (tTest (tOp rEq (tOp rMod (tVar 2) (tC (.int 2))) (tC (.int 1)))) (tRet (tCal (sp_mate_of K) (tCons (tVar 3) tNil))) tNext)
        (tRet (tVar 3)))))
theorem len_old_end {K : PySem.W.Frag} {vs : List V} {H : Hp} {Q : VK} {E : XK} (h : sp_old_end K vs H Q E) : vs.length = (["turn", "ties", "end"] : List Str).length := by
  obtain ⟨a, T, m, e, rfl, _⟩ := h; rfl
theorem pure_old_end {K : PySem.W.Frag} (vs : List V) (H : Hp) (Q : VK) (E : XK) (h : sp_old_end K vs H Q E) : t_old_end K { nx := fun _ H' => Q .non H', rt := Q } (start N_old_end vs) H := by
  obtain ⟨a, T, m, e, rfl, hI, h0, h1, hm, k⟩ := h
  unfold t_old_end
  unfold oldE at k
  walk_at "S"
  refine iteD (fun c => ?_) (fun c => ?_)
  · walk_at "S"
    rw [if_pos c] at k
    exact k
  · rw [if_neg c] at k
    walk_at "S"
    rw [fdiv2]
    have hi : ((e - 2 * m) / 2).toNat < T.length := by omega
    refine a_ixz hI (by omega) (List.getElem?_eq_getElem hi) ?_
    rw [List.getD_eq_getElem?_getD, List.getElem?_eq_getElem hi] at k
    walk_at "S"
    rw [fmod2]
    refine iteEq (fun c2 => ?_) (fun c2 => ?_)
    · rw [if_pos c2] at k
      walk_at "S"
      rw [← mt_is] at k
      walk_at "S"
      rw [mt_is] at k
      exact k
    · rw [if_neg c2] at k
      walk_at "S"
      exact k

section
variable {P : Program} {w : World} {K : PySem.W.Frag} {mg : Str → Option Value} {base : Heap}
theorem sc_old_end : FnScope N_old_end ["turn", "ties", "end"] (defScope s_old_end) := ⟨rfl, rfl, rfl, by decide +kernel, rfl, by decide +kernel, by decide +kernel⟩
theorem cal_old_end (B : Blt mg) (D : Dfn K mg "old_end" s_old_end ["turn", "ties", "end"]) (C_mate_of : Cal P w K mg base CX0 1 "mate_of" ["end"] (sp_mate_of K)) : Cal P w K mg base CX0 2 "old_end" ["turn", "ties", "end"] (sp_old_end K) := by
  refine cal_mk D fun f fd F => F.ok sc_old_end (fun vs H Q E h => len_old_end h) (fun cdv A outer s H vs Q E hr h => ⟨t_old_end K, ?_, pure_old_end vs H Q E h⟩)
  have hu := hu_of hr
  exact (pss_cons (ps_if (pt_cmpR op_lt (pv 2) (pe_op op_mul pe_int (pv 1)) (nomark _)) (pss_one (ps_ret (pv 2))) pss_nil)
        (pss_cons (ps_set (i := 3) sc_old_end.nd rfl (Or.inl rfl) (pe_ix ix_list (pv 0) (pe_op op_fdivN (pe_op op_sub (pv 2) (pe_op op_mul pe_int (pv 1))) pe_int) (fun _ _ => rfl)))
        (pss_cons (ps_if (pt_cmpR op_eq (pe_op op_modN (pv 2) pe_int) pe_int (nomark _)) (pss_one (ps_ret (pe_cal C_mate_of hr (by decide) (by rfl) (pa_cons (pv 3) pa_nil)))) pss_nil)
        (pss_one (ps_ret (pv 3))))))
end

abbrev s_shortest_back : Stmt := top 22
abbrev N_shortest_back : List Str := ["cut", "seats", "places", "turn", "best", "at", "goal", "nearer", "way"]
-- slots: 0 cut, 1 seats, 2 places, 3 turn, 4 best, 5 at, 6 goal, 7 nearer, 8 way
def t_shortest_back (K : PySem.W.Frag) : TS :=
  (tSeq (tAsg (tC .non) (gName 4))
        (tSeq (tFor (iRng1 (tCons (tCB (bLen K) (tCons (tVar 3) tNil)) tNil)) (gName 5) (tSeq (tAsg (tOp (rIxL K) (tVar 1) (tOp (rIxL K) (tVar 3) (tVar 5))) (gName 6))
          (tSeq (tAsg (tCal (sp_tree_from K) (tCons (tVar 0) (tCons (tVar 6) tNil))) (gName 7))
          (tIfS (tB (tDIn (tOp rAdd (tVar 2) (tVar 5)) (tVar 7))) (tSeq (tAsg (tCal (sp_way_up K) (tCons (tVar 1) (tCons (tVar 7) (tCons (tOp rAdd (tVar 2) (tVar 5)) tNil)))) (gName 8))
            (tIfS (tOr (tTest (tOp rIsN (tVar 4) (tC .non))) (tTest (tOp rLt (tCB (bLen K) (tCons (tVar 8) tNil)) (tCB (bLen K) (tCons (tVar 4) tNil))))) (tAsg (tVar 8) (gName 4)) tNext)) tNext))))
        (tRet (tVar 4))))
theorem len_shortest_back {K : PySem.W.Frag} {vs : List V} {H : Hp} {Q : VK} {E : XK} (h : sp_shortest_back K vs H Q E) : vs.length = (["cut", "seats", "places", "turn"] : List Str).length := by
  obtain ⟨c, s, t, C, mc, n, T, rfl, _⟩ := h; rfl
/-- the best so far -/
def Best (C : Dr) (n : Nat) (T : List Int) (i : Nat) (H H' : Hp) (x : V) : Prop :=
  (x = .non ∧ ∀ j, j < i → ∀ w, ¬ Path C (n + j) w (seat C (T.getD j 0))) ∨
  ∃ b w, x = .ref b ∧ H b = none ∧ IsI H' b w ∧ (∃ j, j < i ∧ Path C (n + j) w (seat C (T.getD j 0))) ∧ ∀ j, j < i → ∀ v, Path C (n + j) v (seat C (T.getD j 0)) → w.length ≤ v.length
theorem Best.ex {C : Dr} {n : Nat} {T : List Int} {i : Nat} {H H' H2 : Hp} {x : V} (b : Best C n T i H H' x) (e : Ex H' H2) : Best C n T i H H2 x := by
  rcases b with b | ⟨b, w, h1, h2, h3, h4⟩
  · exact .inl b
  · exact .inr ⟨b, w, h1, h2, h3.ex e, h4⟩
theorem pure_shortest_back {K : PySem.W.Frag} (vs : List V) (H : Hp) (Q : VK) (E : XK) (h : sp_shortest_back K vs H Q E) : t_shortest_back K { nx := fun _ H' => Q .non H', rt := Q } (start N_shortest_back vs) H := by
  obtain ⟨c, s, t, C, mc, n, T, rfl, hC, hv, hm, hl, hs, hT, hlen, hTr, k0, k1⟩ := h
  unfold t_shortest_back
  walk_at "S"
  refine a_len hT ?_
  refine forR (n := T.length) (by omega) (fun i σ H' => ∃ x y5 y6 y7 y8, σ = [some (.ref c), some (.ref s), some (.int (n : Int)), some (.ref t), some x, y5, y6, y7, y8] ∧ Ex H H' ∧ Best C n T i H H' x)
    ⟨_, _, _, _, _, rfl, Ex.refl H, .inl ⟨rfl, fun j hj => absurd hj (Nat.not_lt_zero j)⟩⟩ ?_ ?_
  · rintro i σ H1 hi ⟨x, y5, y6, y7, y8, rfl, e1, hb⟩
    have hg : T[i]? = some (T.getD i 0) := by rw [List.getD_eq_getElem?_getD, List.getElem?_eq_getElem hi]; rfl
    have hgr := hTr _ (List.mem_of_getElem? hg)
    have hgf := hv.mem hgr.1 hgr.2
    walk_at "S"
    refine a_ix (hT.ex e1) hg ?_
    refine a_seat (hs.ex e1) hgr.1 hgr.2 ?_
    walk_at "S"
    refine ⟨c, C, mc, seat C (T.getD i 0), rfl, hC.ex' e1, hv, hm, hl, seat_lt hgf, fun H2 p f e2 _ hf ⟨nr, d, ht, hfn⟩ => ?_⟩
    walk_at "S"
    refine m_in hf ?_
    walk_at "S"
    have en : (n : Int) + (i : Int) = ((n + i : Nat) : Int) := by omega
    have hfn' : f ((n : Int) + (i : Int)) = nr (n + i) := by rw [hfn, en, if_pos (by omega), Int.toNat_natCast]
    rw [hfn']
    refine iteB (fun c2 => ?_) (fun c2 => ?_)
    · have hnr : nr (n + i) ≠ none := by cases q : nr (n + i) <;> simp_all
      have hbd := ht.bd _ hnr
      walk_at "S"
      rw [en]
      refine ⟨s, p, C, mc, seat C (T.getD i 0), n + i, f, nr, d, rfl, hs.ex (e1.trans e2), hv, hf, ht, hfn, hnr, by omega, fun H3 q w e3 nq hw ⟨hp, hl3⟩ => ?_⟩
      have hfar : ∀ v, Path C (n + i) v (seat C (T.getD i 0)) → w.length ≤ v.length := fun v hvp => by
        have := (tree_far hv ht hvp).2
        omega
      have e13 := (e1.trans e2).trans e3
      have hb3 := (hb.ex e2).ex e3
      have nq' : H q = none := ex_back (e1.trans e2) nq
      walk_at "S"
      rcases hb3 with ⟨rfl, hnone⟩ | ⟨b, u, rfl, nb, hu, ⟨j, hj, hpj⟩, hmin⟩
      · refine iteD (fun _ => ?_) (fun c3 => absurd rfl c3)
        rw [if_pos rfl]
        walk_at "S"
        refine ⟨_, _, _, _, _, rfl, e13, .inr ⟨q, w, rfl, nq', hw, ⟨i, Nat.lt_succ_self i, hp⟩, fun j hj v hvp => ?_⟩⟩
        by_cases hji : j = i
        · subst hji; exact hfar v hvp
        · exact absurd hvp (hnone j (by omega) v)
      · refine iteD (fun c3 => nomatch c3) (fun _ => ?_)
        walk_at "S"
        refine a_len hw ?_
        walk_at "S"
        refine a_len hu ?_
        walk_at "S"
        refine iteD (fun c3 => ?_) (fun c3 => ?_)
        · walk_at "S"
          refine ⟨_, _, _, _, _, rfl, e13, .inr ⟨q, w, rfl, nq', hw, ⟨i, Nat.lt_succ_self i, hp⟩, fun j hj v hvp => ?_⟩⟩
          by_cases hji : j = i
          · subst hji; exact hfar v hvp
          · have := hmin j (by omega) v hvp
            omega
        · walk_at "S"
          refine ⟨_, _, _, _, _, rfl, e13, .inr ⟨b, u, rfl, nb, hu, ⟨j, by omega, hpj⟩, fun j hj v hvp => ?_⟩⟩
          by_cases hji : j = i
          · subst hji
            have := hfar v hvp
            omega
          · exact hmin j (by omega) v hvp
    · have hnr : nr (n + i) = none := by cases q : nr (n + i) <;> simp_all
      walk_at "S"
      refine ⟨_, _, _, _, _, rfl, e1.trans e2, ?_⟩
      have hno : ∀ w, ¬ Path C (n + i) w (seat C (T.getD i 0)) := fun w hp => (tree_far hv ht hp).1 hnr
      rcases hb.ex e2 with ⟨rfl, hnone⟩ | ⟨b, u, rfl, nb, hu, ⟨j, hj, hpj⟩, hmin⟩
      · refine .inl ⟨rfl, fun j hj => ?_⟩
        by_cases hji : j = i
        · subst hji; exact hno
        · exact hnone j (by omega)
      · refine .inr ⟨b, u, rfl, nb, hu, ⟨j, by omega, hpj⟩, fun j hj v hvp => ?_⟩
        by_cases hji : j = i
        · subst hji; exact absurd hvp (hno v)
        · exact hmin j (by omega) v hvp
  · rintro σ H1 ⟨x, y5, y6, y7, y8, rfl, e1, hb⟩
    walk_at "S"
    rcases hb with ⟨rfl, hnone⟩ | ⟨b, u, rfl, nb, hu, hj, hmin⟩
    · exact k0 hnone H1 e1
    · exact k1 H1 b u e1 nb hu (by obtain ⟨j, h1, h2⟩ := hj; exact ⟨j, h1, h2, hmin⟩)

section
variable {P : Program} {w : World} {K : PySem.W.Frag} {mg : Str → Option Value} {base : Heap}
theorem sc_shortest_back : FnScope N_shortest_back ["cut", "seats", "places", "turn"] (defScope s_shortest_back) := ⟨rfl, rfl, rfl, by decide +kernel, rfl, by decide +kernel, by decide +kernel⟩
theorem cal_shortest_back (B : Blt mg) (D : Dfn K mg "shortest_back" s_shortest_back ["cut", "seats", "places", "turn"]) (C_tree_from : Cal P w K mg base CX0 3 "tree_from" ["drawing", "root"] (sp_tree_from K)) (C_way_up : Cal P w K mg base CX0 2 "way_up" ["seats", "nearer", "place"] (sp_way_up K)) : Cal P w K mg base CX0 4 "shortest_back" ["cut", "seats", "places", "turn"] (sp_shortest_back K) := by
  refine cal_mk D fun f fd F => F.ok sc_shortest_back (fun vs H Q E h => len_shortest_back h) (fun cdv A outer s H vs Q E hr h => ⟨t_shortest_back K, ?_, pure_shortest_back vs H Q E h⟩)
  have hu := hu_of hr
  exact (pss_cons (ps_set (i := 4) sc_shortest_back.nd rfl (Or.inl rfl) pe_non)
        (pss_cons (ps_for PassesOwn.never rfl (pi_range1 (by rfl) B.range_ (pa_cons (pe_callB call_len_seq (by rfl) B.len_ PySem.boot_len (pa_cons (pv 3) pa_nil)) pa_nil)) (pg_name (i := 5) sc_shortest_back.nd rfl (Or.inl rfl)) (pss_cons (ps_set (i := 6) sc_shortest_back.nd rfl (Or.inl rfl) (pe_ix ix_list (pv 1) (pe_ix ix_list (pv 3) (pv 5) (fun _ _ => rfl)) (fun _ _ => rfl)))
          (pss_cons (ps_set (i := 7) sc_shortest_back.nd rfl (Or.inl rfl) (pe_cal C_tree_from hr (by decide) (by rfl) (pa_cons (pv 0) (pa_cons (pv 6) pa_nil))))
          (pss_one (ps_if (pt_cmp (pc_din hu (pe_op op_add (pv 2) (pv 5)) (pv 7))) (pss_cons (ps_set (i := 8) sc_shortest_back.nd rfl (Or.inl rfl) (pe_cal C_way_up hr (by decide) (by rfl) (pa_cons (pv 1) (pa_cons (pv 7) (pa_cons (pe_op op_add (pv 2) (pv 5)) pa_nil)))))
            (pss_one (ps_if (PW.pt (pw_or (pt_cmpR op_isN (pv 4) pe_non (nomark _)) (pw_or1 (pt_cmpR op_lt (pe_callB call_len_seq (by rfl) B.len_ PySem.boot_len (pa_cons (pv 8) pa_nil)) (pe_callB call_len_seq (by rfl) B.len_ PySem.boot_len (pa_cons (pv 4) pa_nil)) (nomark _))))) (pss_one (ps_set (i := 4) sc_shortest_back.nd rfl (Or.inl rfl) (pv 8))) pss_nil))) pss_nil)))))
        (pss_one (ps_ret (pv 4)))))
end

abbrev s_turn_over : Stmt := top 23
abbrev N_turn_over : List Str := ["drawing", "turn", "cut", "seats", "ties", "way", "end"]
-- slots: 0 drawing, 1 turn, 2 cut, 3 seats, 4 ties, 5 way, 6 end
def t_turn_over (K : PySem.W.Frag) : TS :=
  (tSeq (tDrop (tCal (sp_ask_round K) (tCons (tVar 0) (tCons (tVar 1) tNil))))
        (tSeq (tAsg (tOp (rIxT K) (tCal (sp_cut_along K) (tCons (tVar 0) (tCons (tVar 1) tNil))) (tC (.int 0))) (gName 2))
        (tSeq (tAsg (tCal (sp_seats_of K) (tCons (tVar 2) tNil)) (gName 3))
        (tSeq (tAsg (tOp rSub (tOp rDiv (tCB (bLen K) (tCons (tVar 3) tNil)) (tC (.int 2))) (tCB (bLen K) (tCons (tVar 1) tNil))) (gName 4))
        (tSeq (tAsg (tCal (sp_shortest_back K) (tCons (tVar 2) (tCons (tVar 3) (tCons (tCB (bLen K) (tCons (tVar 0) tNil)) (tCons (tVar 1) tNil))))) (gName 5))
        (tSeq (tIfS (tTest (tOp rIsN (tVar 5) (tC .non))) (tRet (tC .non)) tNext)
        (tRet (tCal (sp_turned_about K) (tCons (tLc (iList K (tVar 5)) (gName 6) tYes (tCal (sp_old_end K) (tCons (tVar 1) (tCons (tVar 4) (tCons (tVar 6) tNil)))) [6]) tNil)))))))))
theorem len_turn_over {K : PySem.W.Frag} {vs : List V} {H : Hp} {Q : VK} {E : XK} (h : sp_turn_over K vs H Q E) : vs.length = (["drawing", "turn"] : List Str).length := by
  obtain ⟨a, b, D, m, T, rfl, _⟩ := h; rfl
theorem turn_short {D : Dr} {m : Nat} {T : List Int} (hv : Valid D m) (ht : IsTurn D m T) : T.length ≤ D.length := by
  have := nodup_len (m := List.range D.length) ht.ps fun x hx => by
    obtain ⟨e, he, rfl⟩ := List.mem_map.mp hx
    exact List.mem_range.mpr (seat_lt (ht.inD hv he))
  rw [List.length_map, List.length_range] at this
  exact this
theorem path_rg {C : Dr} {m : Nat} (v : Valid C m) {w : List Int} {p q : Nat} (h : Path C p w q) : ∀ e ∈ w, 0 ≤ e ∧ e < 2 * (m : Int) := fun e he => v.rg e (path_flat h e he)
theorem pure_turn_over {K : PySem.W.Frag} (vs : List V) (H : Hp) (Q : VK) (E : XK) (h : sp_turn_over K vs H Q E) : t_turn_over K { nx := fun _ H' => Q .non H', rt := Q } (start N_turn_over vs) H := by
  obtain ⟨a, b, D, m, T, rfl, hD, hv, hm, hl, hT, htl, ht, k0, k1⟩ := h
  have hkl := turn_short hv ht
  unfold t_turn_over
  walk_at "S"
  refine ⟨a, b, D, m, T, rfl, hD, hv, by omega, by omega, hT, htl, ht, fun H1 e1 => ?_⟩
  walk_at "S"
  refine ⟨a, b, D, m, T, rfl, hD.ex' e1, hv, hm, hl, hT.ex e1, htl, ht, fun H2 p c x y C e2 hp hC hcut => ?_⟩
  have cv := over_valid hv ht hcut
  have e02 := e1.trans e2
  walk_at "S"
  refine ⟨p, _, 0, _, rfl, rfl, .inl (.inl hp), rfl, ?_⟩
  walk_at "S"
  have hcl := hcut.len
  refine ⟨c, C, _, rfl, hC, cv, by omega, by omega, fun H3 s ns e3 _ hs hns => ?_⟩
  subst hns
  walk_at "S"
  refine a_len hs ?_
  walk_at "S"
  rw [len_seatsL, fdiv2]
  refine a_len (hT.ex (e02.trans e3)) ?_
  walk_at "S"
  have em : ((2 * (m + T.length) : Nat) : Int) / 2 - ((T.length : Nat) : Int) = (m : Int) := by omega
  rw [em]
  refine a_lenD (hD.ex' (e02.trans e3)) ?_
  walk_at "S"
  refine ⟨c, s, b, C, _, D.length, T, rfl, hC.ex' e3, cv, by omega, by omega, hs, hT.ex (e02.trans e3), hcl, fun e he => by have := ht.wk.rg e he; omega, fun hno H4 e4 => ?_, fun H4 q w e4 _ hw ⟨i, hi, hpath, hmin⟩ => ?_⟩
  · walk_at "S"
    refine iteD (fun _ => ?_) (fun c => absurd rfl c)
    walk_at "S"
    exact k0 ((over_parted hv ht hcut).mpr hno) H4 ((e02.trans e3).trans e4)
  · walk_at "S"
    refine iteD (fun c => nomatch c) (fun _ => ?_)
    walk_at "S"
    have hwr := path_rg cv hpath
    have hright := over_right hv ht hcut (i0 := i) (w := w) ⟨hi, hpath, hmin⟩
    have hwl : w.length ≤ 10000 := by
      have := turn_short hv hright.1
      unfold over at this
      rw [List.length_map, List.length_reverse, List.length_map] at this
      omega
    refine lcI1 hw (by omega) (oldE T m) (fun z hz H5 e5 R r => ?_) fun q2 H5 e5 n5 h5 => ?_
    · walk_at "S"
      have := hwr z hz
      refine ⟨b, T, m, z, rfl, hT.ex (((e02.trans e3).trans e4).trans e5), this.1, by omega, by omega, ?_⟩
      exact r H5 (Ex.refl H5)
    walk_at "S"
    refine ⟨q2, _, rfl, h5, by rw [List.length_map]; exact hwl, fun H6 q3 ns e6 n6 h6 hns => ?_⟩
    have e04 := ((e02.trans e3).trans e4).trans e5
    refine k1 (fun hpar => (over_parted hv ht hcut).mp hpar i hi w hpath) H6 q3 ns (e04.trans e6) (ex_back e04 n6) h6 ?_
    rw [hns]
    exact hright

section
variable {P : Program} {w : World} {K : PySem.W.Frag} {mg : Str → Option Value} {base : Heap}
theorem sc_turn_over : FnScope N_turn_over ["drawing", "turn"] (defScope s_turn_over) := ⟨rfl, rfl, rfl, by decide +kernel, rfl, by decide +kernel, by decide +kernel⟩
theorem cal_turn_over (B : Blt mg) (D : Dfn K mg "turn_over" s_turn_over ["drawing", "turn"]) (C_ask_round : Cal P w K mg base CX0 5 "ask_round" ["drawing", "ends"] (sp_ask_round K)) (C_cut_along : Cal P w K mg base CX0 5 "cut_along" ["drawing", "turn"] (sp_cut_along K)) (C_seats_of : Cal P w K mg base CX0 2 "seats_of" ["drawing"] (sp_seats_of K)) (C_shortest_back : Cal P w K mg base CX0 4 "shortest_back" ["cut", "seats", "places", "turn"] (sp_shortest_back K)) (C_turned_about : Cal P w K mg base CX0 2 "turned_about" ["way"] (sp_turned_about K)) (C_old_end : Cal P w K mg base CX0 2 "old_end" ["turn", "ties", "end"] (sp_old_end K)) : Cal P w K mg base CX0 6 "turn_over" ["drawing", "turn"] (sp_turn_over K) := by
  refine cal_mk D fun f fd F => F.ok sc_turn_over (fun vs H Q E h => len_turn_over h) (fun cdv A outer s H vs Q E hr h => ⟨t_turn_over K, ?_, pure_turn_over vs H Q E h⟩)
  have hu := hu_of hr
  exact (pss_cons (ps_expr (pe_cal C_ask_round hr (by decide) (by rfl) (pa_cons (pv 0) (pa_cons (pv 1) pa_nil))))
        (pss_cons (ps_set (i := 2) sc_turn_over.nd rfl (Or.inl rfl) (pe_ix ix_tup (pe_cal C_cut_along hr (by decide) (by rfl) (pa_cons (pv 0) (pa_cons (pv 1) pa_nil))) pe_int (fun _ _ => rfl)))
        (pss_cons (ps_set (i := 3) sc_turn_over.nd rfl (Or.inl rfl) (pe_cal C_seats_of hr (by decide) (by rfl) (pa_cons (pv 2) pa_nil)))
        (pss_cons (ps_set (i := 4) sc_turn_over.nd rfl (Or.inr rfl) (pe_op op_sub (pe_op op_fdivN (pe_callB call_len_seq (by rfl) B.len_ PySem.boot_len (pa_cons (pv 3) pa_nil)) pe_int) (pe_callB call_len_seq (by rfl) B.len_ PySem.boot_len (pa_cons (pv 1) pa_nil))))
        (pss_cons (ps_set (i := 5) sc_turn_over.nd rfl (Or.inl rfl) (pe_cal C_shortest_back hr (by decide) (by rfl) (pa_cons (pv 2) (pa_cons (pv 3) (pa_cons (pe_callB call_len_seq (by rfl) B.len_ PySem.boot_len (pa_cons (pv 0) pa_nil)) (pa_cons (pv 1) pa_nil))))))
        (pss_cons (ps_if (pt_cmpR op_isN (pv 5) pe_non (nomark _)) (pss_one (ps_ret pe_non)) pss_nil)
        (pss_one (ps_ret (pe_cal C_turned_about hr (by decide) (by rfl) (pa_cons (pe_lc (own := [("end", 6)]) (g := gName 6) rfl sc_turn_over.nd (pi_list (pv 5)) (blkOk_by (own := [("end", 6)]) (N := N_turn_over) (sc := (defScope s_turn_over)) (by decide +kernel)) (fun _ _ _ _ _ => pg_name (i := 6) sc_turn_over.nd rfl (Or.inl rfl)) (fun _ _ _ _ _ => pts_nil) (fun _ _ _ _ _ => (pe_cal C_old_end hr (by decide) (by rfl) (pa_cons (pv 1) (pa_cons (pv 4) (pa_cons (pv 6) pa_nil)))))) pa_nil))))))))))
end

abbrev s_law_cell : Stmt := top 25
abbrev N_law_cell : List Str := ["_law_script", "_law_k"]
-- slots: 0 script, 1 k
def t_law_cell (K : PySem.W.Frag) : TS :=
  (tSeq (tIfS (tTest (tOp rEq (tCB (bLen K) (tCons (tVar 0) tNil)) (tC (.int 0)))) (tRet (tOp rAdd (tOp rMul (tC (.int 48271)) (tVar 1)) (tC (.int 5)))) tNext)
        (tSeq (tIfS (tTest (tOp rLt (tVar 1) (tCB (bLen K) (tCons (tVar 0) tNil)))) (tRet (tOp (rIxL K) (tVar 0) (tVar 1))) tNext)
        (tRet (tOp rAdd (tOp rMul (tOp rMod (tOp (rIxL K) (tVar 0) (tOp rMod (tVar 1) (tCB (bLen K) (tCons (tVar 0) tNil)))) (tC (.int 1000033))) (tC (.int 39373))) (tOp rMul (tC (.int 7907)) (tVar 1))))))
theorem len_law_cell {K : PySem.W.Frag} {vs : List V} {H : Hp} {Q : VK} {E : XK} (h : sp_law_cell K vs H Q E) : vs.length = (["_law_script", "_law_k"] : List Str).length := by
  obtain ⟨a, ns, k, rfl, _⟩ := h; rfl
theorem pure_law_cell {K : PySem.W.Frag} (vs : List V) (H : Hp) (Q : VK) (E : XK) (h : sp_law_cell K vs H Q E) : t_law_cell K { nx := fun _ H' => Q .non H', rt := Q } (start N_law_cell vs) H := by
  obtain ⟨a, ns, n, rfl, hS, hl, hn, k⟩ := h
  unfold t_law_cell
  walk_at "S"
  refine a_lenS hS ?_
  walk_at "S"
  refine iteEq (fun c => ?_) (fun c => ?_)
  · walk_at "S"
    exact k _
  walk_at "S"
  refine a_lenS hS ?_
  walk_at "S"
  refine iteD (fun c2 => ?_) (fun c2 => ?_)
  · walk_at "S"
    exact a_ixS hS (List.getElem?_eq_getElem (show n < ns.length by omega)) (k _)
  walk_at "S"
  refine a_lenS hS ?_
  refine s_I (show (ns.length : Int) ≠ 0 by omega) ?_
  rw [fmod_nat]
  have hm : n % ns.length < ns.length := Nat.mod_lt _ (by omega)
  refine a_ixS hS (List.getElem?_eq_getElem hm) ?_
  walk_at "S"
  exact k _

section
variable {P : Program} {w : World} {K : PySem.W.Frag} {mg : Str → Option Value} {base : Heap}
theorem sc_law_cell : FnScope N_law_cell ["_law_script", "_law_k"] (defScope s_law_cell) := ⟨rfl, rfl, rfl, by decide +kernel, rfl, by decide +kernel, by decide +kernel⟩
theorem cal_law_cell (B : Blt mg) (D : Dfn K mg "_law_cell" s_law_cell ["_law_script", "_law_k"])  : Cal P w K mg base CX0 1 "_law_cell" ["_law_script", "_law_k"] (sp_law_cell K) := by
  refine cal_mk D fun f fd F => F.ok sc_law_cell (fun vs H Q E h => len_law_cell h) (fun cdv A outer s H vs Q E hr h => ⟨t_law_cell K, ?_, pure_law_cell vs H Q E h⟩)
  have hu := hu_of hr
  exact (pss_cons (ps_if (pt_cmpR op_eq (pe_callB call_len_seq (by rfl) B.len_ PySem.boot_len (pa_cons (pv 0) pa_nil)) pe_int (nomark _)) (pss_one (ps_ret (pe_op op_add (pe_op op_mul pe_int (pv 1)) pe_int))) pss_nil)
        (pss_cons (ps_if (pt_cmpR op_lt (pv 1) (pe_callB call_len_seq (by rfl) B.len_ PySem.boot_len (pa_cons (pv 0) pa_nil)) (nomark _)) (pss_one (ps_ret (pe_ix ix_list (pv 0) (pv 1) (fun _ _ => rfl)))) pss_nil)
        (pss_one (ps_ret (pe_op op_add (pe_op op_mul (pe_op op_modN (pe_ix ix_list (pv 0) (pe_op op_modN (pv 1) (pe_callB call_len_seq (by rfl) B.len_ PySem.boot_len (pa_cons (pv 0) pa_nil))) (fun _ _ => rfl)) pe_int) pe_int) (pe_op op_mul pe_int (pv 1)))))))
end

abbrev s_law_draws : Stmt := top 26
abbrev N_law_draws : List Str := ["_law_cell_here", "_law_sizes", "_law_rest", "_law_found", "_law_k", "_law_size", "_law_mixed"]
-- slots: 0 cell_here, 1 sizes, 2 rest, 3 found, 4 k, 5 size, 6 mixed
def t_law_draws (K : PySem.W.Frag) : TS :=
  (tSeq (tAsg (tC (.int 0)) (gName 2))
        (tSeq (tIfS (tTest (tOp rGe (tVar 0) (tOp rPow (tC (.int 10)) (tC (.int 18))))) (tAsg (tVar 0) (gName 2)) tNext)
        (tSeq (tAsg (tLst tNil) (gName 3))
        (tSeq (tFor (iEnum K (tCons (tVar 1) tNil)) (gTup K 2 (gCons (gName 4) (gCons (gName 5) gNil))) (tIfS (tTest (tOp rGt (tVar 2) (tC (.int 0)))) (tSeq (tDrop (tBM K "list" rAppend (tVar 3) (tCons (tOp rMod (tVar 2) (tVar 5)) tNil)))
            (tAsg (tOp rDiv (tVar 2) (tVar 5)) (gName 2))) (tSeq (tAsg (tOp rMod (tOp rPow (tOp rAdd (tOp rAdd (tOp rAdd (tOp rMod (tVar 0) (tC (.int 2147483647))) (tOp rMul (tOp rMul (tC (.int 1009)) (tVar 4)) (tVar 4))) (tOp rMul (tC (.int 48611)) (tVar 4))) (tC (.int 17))) (tC (.int 5))) (tC (.int 2147483647))) (gName 6))
            (tDrop (tBM K "list" rAppend (tVar 3) (tCons (tOp rMod (tOp rMod (tOp rAdd (tOp rMul (tVar 6) (tC (.int 48271))) (tOp rMul (tC (.int 7919)) (tVar 4))) (tC (.int 1000000007))) (tVar 5)) tNil))))))
        (tRet (tVar 3))))))
theorem len_law_draws {K : PySem.W.Frag} {vs : List V} {H : Hp} {Q : VK} {E : XK} (h : sp_law_draws K vs H Q E) : vs.length = (["_law_cell_here", "_law_sizes"] : List Str).length := by
  obtain ⟨c, a, ss, rfl, _⟩ := h; rfl
theorem drawn_snoc {ps ss : List Int} {i : Nat} {p s : Int} (h : Drawn ps (ss.take i)) (hs : ss[i]? = some s) (h0 : 0 ≤ p) (h1 : p < s) : Drawn (ps ++ [p]) (ss.take (i + 1)) := by
  have hi := (List.getElem?_eq_some_iff.mp hs).1
  have hl := h.1
  rw [List.length_take] at hl
  refine ⟨by rw [List.length_append, List.length_singleton, List.length_take]; omega, fun j q t hq ht => ?_⟩
  rw [List.take_add_one, hs] at ht
  by_cases hj : j < ps.length
  · rw [List.getElem?_append_left hj] at hq
    rw [List.getElem?_append_left (by rw [List.length_take]; omega)] at ht
    exact h.2 j q t hq ht
  · have hjl := (List.getElem?_eq_some_iff.mp hq).1
    rw [List.length_append, List.length_singleton] at hjl
    have e : j = ps.length := by omega
    rw [List.getElem?_append_right (by omega), e, Nat.sub_self] at hq
    rw [List.getElem?_append_right (by rw [List.length_take]; omega), show j - (ss.take i).length = 0 by rw [List.length_take]; omega] at ht
    have e1 : p = q := Option.some.inj hq
    have e2 : s = t := Option.some.inj ht
    subst e1 e2
    exact ⟨h0, h1⟩
theorem pure_law_draws {K : PySem.W.Frag} (vs : List V) (H : Hp) (Q : VK) (E : XK) (h : sp_law_draws K vs H Q E) : t_law_draws K { nx := fun _ H' => Q .non H', rt := Q } (start N_law_draws vs) H := by
  obtain ⟨c, a, ss, rfl, hI, hs, hl, k⟩ := h
  unfold t_law_draws
  walk_at "S"
  have join : ∀ σ : L2.St, (∃ r : Int, σ = [some (.int c), some (.ref a), some (.int r), none, none, none, none]) →
      tSeq (tAsg (tLst tNil) (gName 3))
        (tSeq (tFor (iEnum K (tCons (tVar 1) tNil)) (gTup K 2 (gCons (gName 4) (gCons (gName 5) gNil))) (tIfS (tTest (tOp rGt (tVar 2) (tC (.int 0)))) (tSeq (tDrop (tBM K "list" rAppend (tVar 3) (tCons (tOp rMod (tVar 2) (tVar 5)) tNil)))
            (tAsg (tOp rDiv (tVar 2) (tVar 5)) (gName 2))) (tSeq (tAsg (tOp rMod (tOp rPow (tOp rAdd (tOp rAdd (tOp rAdd (tOp rMod (tVar 0) (tC (.int 2147483647))) (tOp rMul (tOp rMul (tC (.int 1009)) (tVar 4)) (tVar 4))) (tOp rMul (tC (.int 48611)) (tVar 4))) (tC (.int 17))) (tC (.int 5))) (tC (.int 2147483647))) (gName 6))
            (tDrop (tBM K "list" rAppend (tVar 3) (tCons (tOp rMod (tOp rMod (tOp rAdd (tOp rMul (tVar 6) (tC (.int 48271))) (tOp rMul (tC (.int 7919)) (tVar 4))) (tC (.int 1000000007))) (tVar 5)) tNil))))))
        (tRet (tVar 3))) { nx := fun _ H' => Q .non H', rt := Q } σ H := by
    rintro σ ⟨r, rfl⟩
    walk_at "S"
    refine new0 fun p H1 e1 n1 h1 => ?_
    walk_at "S"
    refine forEI hI (fun i σ H' => ∃ r ps y4 y5 y6, σ = [some (.int c), some (.ref a), some (.int r), some (.ref p), y4, y5, y6] ∧ Ex H H' ∧ IsI H' p ps ∧ Drawn ps (ss.take i)) ⟨_, _, _, _, _, rfl, e1, h1, rfl, fun j q t hq => by simp at hq⟩ (fun i σ H' ⟨_, _, _, _, _, _, e, _⟩ => e) ?_ ?_
    · rintro i z σ H2 H3 hz e2 ⟨r, ps, y4, y5, y6, rfl, _, hp, hd⟩ e3
      have hi := (List.getElem?_eq_some_iff.mp hz).1
      have hzp := hs z (List.mem_of_getElem? hz)
      have hpl : ps.length ≤ ss.length := by rw [hd.1, List.length_take]; omega
      walk_at "S"
      refine iteD (fun c2 => ?_) (fun c2 => ?_)
      · walk_at "S"
        refine ⟨tyl (hp.ex e3), ?_⟩
        walk_at "S"
        refine s_I (cmod (show z ≠ 0 by omega)) ?_
        walk_at "S"
        have hr := fmod_rg (a := r) hzp.1
        refine a_app (hp.ex e3) (by omega) ?_
        walk_at "S"
        refine s_I (cdivn (show z ≠ 0 ∧ z.natAbs < 1073741824 by omega)) ?_
        exact ⟨_, _, _, _, _, rfl, ex_mut (e2.trans e3) n1, upd_same, drawn_snoc hd hz hr.1 hr.2⟩
      · have hc := fmod_rg (a := c) (b := 2147483647) (by decide)
        have hm : 0 ≤ 1009 * (i : Int) * (i : Int) ∧ 1009 * (i : Int) * (i : Int) ≤ 1009 * 100000 * 100000 := by
          have a1 : (0 : Int) ≤ i := by omega
          have a2 : (i : Int) ≤ 100000 := by omega
          exact ⟨Int.mul_nonneg (by omega) a1, Int.mul_le_mul (by omega) a2 a1 (by omega)⟩
        walk_at "S"
        refine s_I (cmulc (show -(2 ^ 64) < 1009 * (i : Int) ∧ 1009 * (i : Int) < 2 ^ 64 by omega)) ?_
        walk_at "S"
        refine s_I (cpow ⟨by decide, by decide, ?_⟩) ?_
        · generalize 1009 * (i : Int) * (i : Int) = q at hm
          omega
        walk_at "S"
        refine ⟨tyl (hp.ex e3), ?_⟩
        walk_at "S"
        refine s_I (cmod (show z ≠ 0 by omega)) ?_
        walk_at "S"
        refine a_app (hp.ex e3) (by omega) ?_
        have hr := fun x : Int => fmod_rg (a := x) hzp.1
        exact ⟨_, _, _, _, _, rfl, ex_mut (e2.trans e3) n1, upd_same, drawn_snoc hd hz (hr _).1 (hr _).2⟩
    · rintro σ H2 ⟨r, ps, y4, y5, y6, rfl, e2, hp, hd⟩
      walk_at "S"
      exact k H2 p ps e2 n1 hp (by rw [List.take_length] at hd; exact hd)
  refine iteD (fun c2 => ?_) (fun c2 => ?_)
  · walk_at "S"
    exact join _ ⟨_, rfl⟩
  · walk_at "S"
    exact join _ ⟨_, rfl⟩

section
variable {P : Program} {w : World} {K : PySem.W.Frag} {mg : Str → Option Value} {base : Heap}
theorem sc_law_draws : FnScope N_law_draws ["_law_cell_here", "_law_sizes"] (defScope s_law_draws) := ⟨rfl, rfl, rfl, by decide +kernel, rfl, by decide +kernel, by decide +kernel⟩
theorem cal_law_draws (B : Blt mg) (D : Dfn K mg "_law_draws" s_law_draws ["_law_cell_here", "_law_sizes"])  : Cal P w K mg base CX0 1 "_law_draws" ["_law_cell_here", "_law_sizes"] (sp_law_draws K) := by
  refine cal_mk D fun f fd F => F.ok sc_law_draws (fun vs H Q E h => len_law_draws h) (fun cdv A outer s H vs Q E hr h => ⟨t_law_draws K, ?_, pure_law_draws vs H Q E h⟩)
  have hu := hu_of hr
  exact (pss_cons (ps_set (i := 2) sc_law_draws.nd rfl (Or.inl rfl) pe_int)
        (pss_cons (ps_if (pt_cmpR op_ge (pv 0) (pe_op op_pow pe_int pe_int) (nomark _)) (pss_one (ps_set (i := 2) sc_law_draws.nd rfl (Or.inl rfl) (pv 0))) pss_nil)
        (pss_cons (ps_set (i := 3) sc_law_draws.nd rfl (Or.inl rfl) (pe_lst pa_nil))
        (pss_cons (ps_for PassesOwn.never rfl (pi_enum (by rfl) B.enumerate_ (pa_cons (pv 1) pa_nil)) (pg_tup rfl (pgs_cons (pg_name (i := 4) sc_law_draws.nd rfl (Or.inl rfl)) (pgs_cons (pg_name (i := 5) sc_law_draws.nd rfl (Or.inl rfl)) pgs_nil))) (pss_one (ps_if (pt_cmpR op_gt (pv 2) pe_int (nomark _)) (pss_cons (ps_expr (pe_bm PySem.F.plainAttrs_list PySem.F.slot_list_append PySem.F.type_list_append mt_append (pv 3) (pa_cons (pe_op op_modN (pv 2) (pv 5)) pa_nil)))
            (pss_one (ps_set (i := 2) sc_law_draws.nd rfl (Or.inl rfl) (pe_op op_fdivN (pv 2) (pv 5))))) (pss_cons (ps_set (i := 6) sc_law_draws.nd rfl (Or.inl rfl) (pe_op op_modN (pe_op op_pow (pe_op op_add (pe_op op_add (pe_op op_add (pe_op op_modN (pv 0) pe_int) (pe_op op_mul (pe_op op_mul pe_int (pv 4)) (pv 4))) (pe_op op_mul pe_int (pv 4))) pe_int) pe_int) pe_int))
            (pss_one (ps_expr (pe_bm PySem.F.plainAttrs_list PySem.F.slot_list_append PySem.F.type_list_append mt_append (pv 3) (pa_cons (pe_op op_modN (pe_op op_modN (pe_op op_add (pe_op op_mul (pv 6) pe_int) (pe_op op_mul pe_int (pv 4))) pe_int) (pv 5)) pa_nil))))))))
        (pss_one (ps_ret (pv 3)))))))
end

abbrev s_law_mate : Stmt := top 27
abbrev N_law_mate : List Str := ["_law_end"]
-- slots: 0 end
def t_law_mate (K : PySem.W.Frag) : TS :=
  (tRet (tOp rSub (tOp rAdd (tVar 0) (tC (.int 1))) (tOp rMul (tC (.int 2)) (tOp rMod (tVar 0) (tC (.int 2))))))
theorem len_law_mate {K : PySem.W.Frag} {vs : List V} {H : Hp} {Q : VK} {E : XK} (h : sp_law_mate K vs H Q E) : vs.length = (["_law_end"] : List Str).length := by
  obtain ⟨e, rfl, _⟩ := h; rfl
theorem pure_law_mate {K : PySem.W.Frag} (vs : List V) (H : Hp) (Q : VK) (E : XK) (h : sp_law_mate K vs H Q E) : t_law_mate K { nx := fun _ H' => Q .non H', rt := Q } (start N_law_mate vs) H := by
  obtain ⟨e, rfl, k⟩ := h
  unfold t_law_mate
  walk_at "S"
  rw [mt_is]; exact k

section
variable {P : Program} {w : World} {K : PySem.W.Frag} {mg : Str → Option Value} {base : Heap}
theorem sc_law_mate : FnScope N_law_mate ["_law_end"] (defScope s_law_mate) := ⟨rfl, rfl, rfl, by decide +kernel, rfl, by decide +kernel, by decide +kernel⟩
theorem cal_law_mate (B : Blt mg) (D : Dfn K mg "_law_mate" s_law_mate ["_law_end"])  : Cal P w K mg base CX0 1 "_law_mate" ["_law_end"] (sp_law_mate K) := by
  refine cal_mk D fun f fd F => F.ok sc_law_mate (fun vs H Q E h => len_law_mate h) (fun cdv A outer s H vs Q E hr h => ⟨t_law_mate K, ?_, pure_law_mate vs H Q E h⟩)
  have hu := hu_of hr
  exact (pss_one (ps_ret (pe_op op_sub (pe_op op_add (pv 0) pe_int) (pe_op op_mul pe_int (pe_op op_modN (pv 0) pe_int)))))
end

abbrev s_law_settled : Stmt := top 28
abbrev N_law_settled : List Str := ["_law_rows", "_law_found", "_law_row", "_law_at"]
-- slots: 0 rows, 1 found, 2 row, 3 at
def t_law_settled (K : PySem.W.Frag) : TS :=
  (tSeq (tAsg (tLst tNil) (gName 1))
        (tSeq (tFor (iList K (tVar 0)) (gName 2) (tSeq (tAsg (tC (.int 0)) (gName 3))
          (tSeq (tIfS (tTest (tOp rGt (tCB (bLen K) (tCons (tVar 2) tNil)) (tC (.int 0)))) (tAsg (tBM K "list" (rIndex K) (tVar 2) (tCons (tCB (rMin K) (tCons (tVar 2) tNil)) tNil)) (gName 3)) tNext)
          (tDrop (tBM K "list" rAppend (tVar 1) (tCons (tOp rCat (tSl (rSlL K) (tVar 2) (tPart (tVar 3)) tNoPart) (tSl (rSlL K) (tVar 2) tNoPart (tPart (tVar 3)))) tNil))))))
        (tRet (tVar 1))))
theorem len_law_settled {K : PySem.W.Frag} {vs : List V} {H : Hp} {Q : VK} {E : XK} (h : sp_law_settled K vs H Q E) : vs.length = (["_law_rows"] : List Str).length := by
  obtain ⟨a, D, rfl, _⟩ := h; rfl
theorem rows_snoc {D D' : Dr} {i : Nat} {r r' : List Int} (h : Rows D' (D.take i)) (hr : D[i]? = some r) (p : r'.Perm r) : Rows (D' ++ [r']) (D.take (i + 1)) := by
  have hi := (List.getElem?_eq_some_iff.mp hr).1
  have hl := h.1
  rw [List.length_take] at hl
  refine ⟨by rw [List.length_append, List.length_singleton, List.length_take]; omega, fun j s s' hs hs' => ?_⟩
  rw [List.take_add_one, hr] at hs
  by_cases hj : j < D'.length
  · rw [List.getElem?_append_left hj] at hs'
    rw [List.getElem?_append_left (by rw [List.length_take]; omega)] at hs
    exact h.2 j s s' hs hs'
  · have hjl := (List.getElem?_eq_some_iff.mp hs').1
    rw [List.length_append, List.length_singleton] at hjl
    have e : j = D'.length := by omega
    rw [List.getElem?_append_right (by omega), e, Nat.sub_self] at hs'
    rw [List.getElem?_append_right (by rw [List.length_take]; omega), show j - (D.take i).length = 0 by rw [List.length_take]; omega] at hs
    have e1 : r' = s' := Option.some.inj hs'
    have e2 : r = s := Option.some.inj hs
    subst e1 e2
    exact p
theorem pure_law_settled {K : PySem.W.Frag} (vs : List V) (H : Hp) (Q : VK) (E : XK) (h : sp_law_settled K vs H Q E) : t_law_settled K { nx := fun _ H' => Q .non H', rt := Q } (start N_law_settled vs) H := by
  obtain ⟨a, D, rfl, hD, hl, hrl, k⟩ := h
  unfold t_law_settled
  walk_at "S"
  refine new0 fun p H1 e1 n1 h1 => ?_
  walk_at "S"
  refine forD hD (fun i σ H' => ∃ y2 y3, σ = [some (.ref a), some (.ref p), y2, y3] ∧ Ex H H' ∧ ∃ D', IsD H' p D' ∧ Rows D' (D.take i)) ⟨_, _, rfl, e1, _, h1.nilD, rfl, fun j s s' hs => by simp at hs⟩ (fun i σ H' ⟨_, _, _, e, _⟩ => e) ?_ ?_
  · rintro i q r σ H2 hr hq hq0 ⟨y2, y3, rfl, e2, D', hD', hrows⟩
    have hi := (List.getElem?_eq_some_iff.mp hr).1
    have hrl' := hrl r (List.mem_of_getElem? hr)
    have hDl : D'.length ≤ D.length := by rw [hrows.1, List.length_take]; omega
    walk_at "S"
    have rest : ∀ (Z : Ends) (j : Nat), (∀ y3 H', Ex H H' → (∃ D', IsD H' p D' ∧ Rows D' (D.take (i + 1))) → Z.nx [some (.ref a), some (.ref p), some (.ref q), y3] H') →
        tDrop (tBM K "list" rAppend (tVar 1) (tCons (tOp rCat (tSl (rSlL K) (tVar 2) (tPart (tVar 3)) tNoPart) (tSl (rSlL K) (tVar 2) tNoPart (tPart (tVar 3)))) tNil)) Z [some (.ref a), some (.ref p), some (.ref q), some (.int (j : Int))] H2 := by
      intro Z j hz
      walk_at "S"
      refine ⟨tylD hD', ?_⟩
      walk_at "S"
      refine a_from hq fun pA HA eA nA hA => ?_
      walk_at "S"
      refine a_to (hq.ex eA) fun pB HB eB nB hB => ?_
      refine a_cat (hA.ex eB) hB (by rw [List.length_drop, List.length_take]; omega) fun pC HC eC nC hC => ?_
      walk_at "S"
      have eAC := (eA.trans eB).trans eC
      have hDC := hD'.ex' eAC
      have hne : pC ≠ p := by
        rintro rfl
        obtain ⟨ps, h1, _⟩ := (hD'.ex' (eA.trans eB)).ex
        rw [h1] at nC; cases nC
      refine a_appD' hDC hne (by omega) hC fun o hDE => ?_
      refine hz _ _ (ex_mut (e2.trans eAC) n1) ⟨_, hDE, rows_snoc hrows hr ?_⟩
      have q := List.perm_append_comm (l₁ := r.drop j) (l₂ := r.take j)
      rw [List.take_append_drop] at q
      exact q
    refine a_len hq ?_
    walk_at "S"
    refine iteD (fun c => ?_) (fun c => ?_)
    · walk_at "S"
      refine ⟨tyl hq, ?_⟩
      walk_at "S"
      refine a_min hq (by omega) fun mm hm => ?_
      walk_at "S"
      refine a_index hq hm fun j hj _ => ?_
      refine rest _ j (fun y3 H' e d => ?_)
      exact ⟨_, _, rfl, e, d⟩
    · walk_at "s"
      refine rest _ 0 (fun y3 H' e d => ?_)
      exact ⟨_, _, rfl, e, d⟩
  · rintro σ H2 ⟨y2, y3, rfl, e2, D', hD', hrows⟩
    walk_at "S"
    exact k H2 p D' e2 n1 hD' (by rw [List.take_length] at hrows; exact hrows)

section
variable {P : Program} {w : World} {K : PySem.W.Frag} {mg : Str → Option Value} {base : Heap}
theorem sc_law_settled : FnScope N_law_settled ["_law_rows"] (defScope s_law_settled) := ⟨rfl, rfl, rfl, by decide +kernel, rfl, by decide +kernel, by decide +kernel⟩
theorem cal_law_settled (B : Blt mg) (D : Dfn K mg "_law_settled" s_law_settled ["_law_rows"])  : Cal P w K mg base CX0 1 "_law_settled" ["_law_rows"] (sp_law_settled K) := by
  refine cal_mk D fun f fd F => F.ok sc_law_settled (fun vs H Q E h => len_law_settled h) (fun cdv A outer s H vs Q E hr h => ⟨t_law_settled K, ?_, pure_law_settled vs H Q E h⟩)
  have hu := hu_of hr
  exact (pss_cons (ps_set (i := 1) sc_law_settled.nd rfl (Or.inl rfl) (pe_lst pa_nil))
        (pss_cons (ps_for PassesOwn.never rfl (pi_list (pv 0)) (pg_name (i := 2) sc_law_settled.nd rfl (Or.inl rfl)) (pss_cons (ps_set (i := 3) sc_law_settled.nd rfl (Or.inl rfl) pe_int)
          (pss_cons (ps_if (pt_cmpR op_gt (pe_callB call_len_seq (by rfl) B.len_ PySem.boot_len (pa_cons (pv 2) pa_nil)) pe_int (nomark _)) (pss_one (ps_set (i := 3) sc_law_settled.nd rfl (Or.inl rfl) (pe_bm PySem.F.plainAttrs_list PySem.F.slot_list_index PySem.F.type_list_index mt_index (pv 2) (pa_cons (pe_callB (cr_min rfl) (by rfl) B.min_ (by decide +kernel) (pa_cons (pv 2) pa_nil)) pa_nil)))) pss_nil)
          (pss_one (ps_expr (pe_bm PySem.F.plainAttrs_list PySem.F.slot_list_append PySem.F.type_list_append mt_append (pv 1) (pa_cons (pe_op op_cat (pe_slice sl_list (pv 2) (po_some (pv 3)) po_none) (pe_slice sl_list (pv 2) po_none (po_some (pv 3)))) pa_nil)))))))
        (pss_one (ps_ret (pv 1)))))
end

abbrev s_law_drawing : Stmt := top 29
abbrev N_law_drawing : List Str := ["_law_script", "_law_base", "_law_most", "_law_ties", "_law_thin", "_law_bare", "_law_one", "_law_two", "_law_k", "_law_picks", "_law_cuts", "_law_left", "_law_rows", "_law_at"]
-- slots: 0 script, 1 base, 2 most, 3 ties, 4 thin, 5 bare, 6 one, 7 two, 8 k, 9 picks, 10 cuts, 11 left, 12 rows, 13 at
def t_law_drawing (K : PySem.W.Frag) : TS :=
  (tSeq (tAsg (tCal (sp_law_draws K) (tCons (tCal (sp_law_cell K) (tCons (tVar 0) (tCons (tVar 1) tNil))) (tCons (tLst (tCons (tOp rAdd (tVar 2) (tC (.int 1))) (tCons (tC (.int 4)) (tCons (tC (.int 4)) (tCons (tC (.int 60)) (tCons (tC (.int 60)) tNil)))))) tNil))) (gUnl K 5 (gCons (gName 3) (gCons (gName 4) (gCons (gName 5) (gCons (gName 6) (gCons (gName 7) gNil)))))))
        (tSeq (tAsg (tCal (sp_law_draws K) (tCons (tCal (sp_law_cell K) (tCons (tVar 0) (tCons (tOp rAdd (tVar 1) (tC (.int 1))) tNil))) (tCons (tLc (iRng1 (tCons (tOp rMul (tC (.int 2)) (tVar 3)) tNil)) (gName 8) tYes (tOp rSub (tOp rMul (tC (.int 2)) (tVar 3)) (tVar 8)) [8]) tNil))) (gName 9))
        (tSeq (tAsg (tCal (sp_law_draws K) (tCons (tCal (sp_law_cell K) (tCons (tVar 0) (tCons (tOp rAdd (tVar 1) (tC (.int 2))) tNil))) (tCons (tOp rRep (tLst (tCons (tOp (rIxL K) (tLst (tCons (tC (.int 2)) (tCons (tC (.int 3)) (tCons (tC (.int 5)) (tCons (tC (.int 40)) tNil))))) (tVar 4)) tNil)) (tOp rMul (tC (.int 2)) (tVar 3))) tNil))) (gName 10))
        (tSeq (tAsg (tLstRg (tRg1 (tOp rMul (tC (.int 2)) (tVar 3)))) (gName 11))
        (tSeq (tAsg (tLst tNil) (gName 12))
        (tSeq (tFor (iRng1 (tCons (tOp rMul (tC (.int 2)) (tVar 3)) tNil)) (gName 8) (tSeq (tIfS (tOr (tTest (tOp rEq (tOp (rIxL K) (tVar 10) (tVar 8)) (tC (.int 0)))) (tTest (tOp rEq (tCB (bLen K) (tCons (tVar 12) tNil)) (tC (.int 0))))) (tDrop (tBM K "list" rAppend (tVar 12) (tCons (tLst tNil) tNil))) tNext)
          (tDrop (tBM K "list" rAppend (tOp (rIxL K) (tVar 12) (tUn uNeg (tC (.int 1)))) (tCons (tBM K "list" rPopAt (tVar 11) (tCons (tOp (rIxL K) (tVar 9) (tVar 8)) tNil)) tNil)))))
        (tSeq (tFor (iList K (tSl (rSlL K) (tLst (tCons (tVar 6) (tCons (tVar 7) tNil))) tNoPart (tPart (tCB bMax (tCons (tC (.int 0)) (tCons (tOp rSub (tVar 5) (tC (.int 1))) tNil)))))) (gName 13) (tDrop (tBM K "list" mIns (tVar 12) (tCons (tOp rMod (tVar 13) (tOp rAdd (tCB (bLen K) (tCons (tVar 12) tNil)) (tC (.int 1)))) (tCons (tLst tNil) tNil)))))
        (tRet (tCal (sp_law_settled K) (tCons (tVar 12) tNil))))))))))
theorem len_law_drawing {K : PySem.W.Frag} {vs : List V} {H : Hp} {Q : VK} {E : XK} (h : sp_law_drawing K vs H Q E) : vs.length = (["_law_script", "_law_base", "_law_most"] : List Str).length := by
  obtain ⟨a, ns, rfl, _⟩ := h; rfl
theorem pure_law_drawing {K : PySem.W.Frag} (vs : List V) (H : Hp) (Q : VK) (E : XK) (h : sp_law_drawing K vs H Q E) : t_law_drawing K { nx := fun _ H' => Q .non H', rt := Q } (start N_law_drawing vs) H := by
  obtain ⟨a, ns, rfl, hS, hl, k⟩ := h
  unfold t_law_drawing
  walk_at "S"
  refine ⟨a, ns, 1, rfl, hS, hl, by decide, fun c1 => ?_⟩
  walk_at "S"
  refine newL (by show 5 ≤ 1000000; decide) fun p1 H1 e1 n1 h1 => ?_
  walk_at "S"
  refine ⟨c1, p1, [8 + 1, 4, 4, 60, 60], rfl, h1, fun s hs => by simp at hs; omega, by show 5 ≤ 100000; decide, fun H2 d1 ds e2 _ hd1 hdr => ?_⟩
  obtain ⟨t, r1, rfl, ht, hdr⟩ := drawn_cons hdr
  obtain ⟨th, r2, rfl, hth, hdr⟩ := drawn_cons hdr
  obtain ⟨ba, r3, rfl, hba, hdr⟩ := drawn_cons hdr
  obtain ⟨o1, r4, rfl, ho1, hdr⟩ := drawn_cons hdr
  obtain ⟨o2, r5, rfl, ho2, hdr⟩ := drawn_cons hdr
  have := drawn_nil hdr
  subst this
  have e02 := e1.trans e2
  refine ⟨_, _, rfl, hd1.sq, rfl, _, _, rfl, _, _, rfl, _, _, rfl, _, _, rfl, _, _, rfl, rfl, ?_⟩
  walk_at "S"
  refine ⟨a, ns, 2, rfl, Evl.ex_l e02 hS, hl, by decide, fun c2 => ?_⟩
  walk_at "S"
  have e2t : (2 : Int) * (t : Int) = ((2 * t : Nat) : Int) := by omega
  rw [e2t]
  refine lcR1 (2 * t) (by omega) (fun i => ((2 * t : Nat) : Int) - (i : Int)) (fun i hi H3 e3 R r => ?_) fun p3 H3 e3 n3 h3 => ?_
  · walk_at "S"
    rw [e2t]
    exact r H3 (Ex.refl H3)
  walk_at "S"
  refine ⟨c2, p3, _, rfl, h3, fun s hs => ?_, by rw [List.length_map, List.length_range]; omega, fun H4 dp pk e4 _ hdp hpk => ?_⟩
  · obtain ⟨i, hi, rfl⟩ := List.mem_map.mp hs
    have := List.mem_range.mp hi
    omega
  have e04 := (e02.trans e3).trans e4
  walk_at "S"
  refine ⟨a, ns, 3, rfl, Evl.ex_l e04 hS, hl, by decide, fun c3 => ?_⟩
  walk_at "S"
  refine newL (by show 4 ≤ 1000000; decide) fun p5 H5 e5 n5 h5 => ?_
  walk_at "S"
  obtain ⟨w, hw, hw0, hw1⟩ : ∃ w : Int, ([2, 3, 5, 40] : List Int)[th]? = some w ∧ 0 < w ∧ w < 1000000 := by
    have hth : th < 4 := by omega
    match th, hth with
    | 0, _ => exact ⟨2, rfl, by decide, by decide⟩
    | 1, _ => exact ⟨3, rfl, by decide, by decide⟩
    | 2, _ => exact ⟨5, rfl, by decide, by decide⟩
    | 3, _ => exact ⟨40, rfl, by decide, by decide⟩
  refine a_ix (ns := [2, 3, 5, 40]) h5 hw ?_
  walk_at "S"
  refine new1 fun p6 H6 e6 n6 h6 => ?_
  walk_at "S"
  rw [e2t]
  refine a_rep h6 (by omega) fun p7 H7 e7 n7 h7 => ?_
  walk_at "S"
  refine ⟨c3, p7, _, rfl, h7, fun s hs => by rw [List.eq_of_mem_replicate hs]; exact ⟨hw0, hw1⟩, by rw [List.length_replicate]; omega, fun H8 dc ct e8 _ hdc hct => ?_⟩
  have e08 := e04.trans (((e5.trans e6).trans e7).trans e8)
  have hdp := hdp.ex (((e5.trans e6).trans e7).trans e8)
  have hctl : ct.length = 2 * t := by rw [hct.1, List.length_replicate]
  walk_at "S"
  rw [e2t]
  refine lrg (n := 2 * t) (by omega) fun lf H9 e9 n9 h9 => ?_
  walk_at "S"
  refine new0 fun rw_ HA eA nA hA => ?_
  have nrw : H8 rw_ = none := ex_back e9 nA
  have nlr : lf ≠ rw_ := by rintro rfl; rw [show H9 lf = _ from h9] at nA; cases nA
  walk_at "S"
  rw [e2t]
  refine forR (n := 2 * t) (by omega) (fun i σ H' => ∃ y8 ps D L, σ = [some (.ref a), some (.int 1), some (.int 8), some (.int (t : Int)), some (.int (th : Int)), some (.int (ba : Int)), some (.int (o1 : Int)), some (.int (o2 : Int)), y8, some (.ref dp), some (.ref dc), some (.ref lf), some (.ref rw_), none] ∧
      Ex H8 H' ∧ IsI H' lf L ∧ IsDs H' rw_ ps D ∧ (∀ p ∈ ps, H8 p = none) ∧ L.length + i = 2 * t ∧ (D.flatten ++ L).Perm (rng (2 * t)) ∧ D.length ≤ i ∧ lf ∉ ps)
    ⟨none, [], [], rng (2 * t), rfl, e9.trans eA, h9.ex eA, ds_new hA, List.forall_mem_nil _, by rw [len_rng]; rfl, List.Perm.refl _, Nat.le_refl 0, List.not_mem_nil⟩ ?_ ?_
  · rintro i σ HB hi ⟨y8, ps, D, L, rfl, eB, hL, hD, hps, hLl, hperm, hDl, hlf⟩
    have rest : ∀ (Z : Ends) (ps : List Addr) (D : Dr) (H' : Hp), Ex H8 H' → IsI H' lf L → IsDs H' rw_ ps D → (∀ p ∈ ps, H8 p = none) → (D.flatten ++ L).Perm (rng (2 * t)) → D.length ≤ i + 1 → D ≠ [] → lf ∉ ps →
        (∀ D L H', Ex H8 H' → IsI H' lf L → IsDs H' rw_ ps D → L.length + (i + 1) = 2 * t → (D.flatten ++ L).Perm (rng (2 * t)) → D.length ≤ i + 1 → Z.nx [some (.ref a), some (.int 1), some (.int 8), some (.int (t : Int)), some (.int (th : Int)), some (.int (ba : Int)), some (.int (o1 : Int)), some (.int (o2 : Int)), some (.int (i : Int)), some (.ref dp), some (.ref dc), some (.ref lf), some (.ref rw_), none] H') →
        tDrop (tBM K "list" rAppend (tOp (rIxL K) (tVar 12) (tUn uNeg (tC (.int 1)))) (tCons (tBM K "list" rPopAt (tVar 11) (tCons (tOp (rIxL K) (tVar 9) (tVar 8)) tNil)) tNil)) Z
          [some (.ref a), some (.int 1), some (.int 8), some (.int (t : Int)), some (.int (th : Int)), some (.int (ba : Int)), some (.int (o1 : Int)), some (.int (o2 : Int)), some (.int (i : Int)), some (.ref dp), some (.ref dc), some (.ref lf), some (.ref rw_), none] H' := by
      intro Z ps D HC eC hL hD hps hperm hDl hDn hlf k1
      have hDp : 0 < D.length := List.length_pos_iff.mpr hDn
      have hrow : (D.getD (D.length - 1) []).length ≤ 2 * t := by
        have h1 : (D.getD (D.length - 1) []).length ≤ D.flatten.length := row_le (by rw [List.getD_eq_getElem?_getD, List.getElem?_eq_getElem (by omega)]; exact List.getElem_mem _)
        have h2 := hperm.length_eq
        rw [List.length_append, len_rng] at h2
        omega
      walk_at "S"
      refine ds_last hD hDp fun p hp => ?_
      have hpm := List.mem_of_getElem? hp
      refine ⟨tyl (hD.row hp), ?_⟩
      walk_at "S"
      refine ⟨tyl hL, ?_⟩
      walk_at "S"
      obtain ⟨v, hv, hvl⟩ := drawn_get (i := i) hpk (by rw [List.getElem?_map, List.getElem?_range hi]; rfl)
      have hvl : (v : Int) < ((2 * t : Nat) : Int) - (i : Int) := hvl
      refine a_ix (hdp.ex eC) hv ?_
      obtain ⟨z, hz⟩ : ∃ z, L[v]? = some z := ⟨_, List.getElem?_eq_getElem (by omega)⟩
      walk_at "S"
      refine a_popAt hL hz (by omega) ?_
      walk_at "S"
      have hD2 := hD.other (b := lf) (o := .lst ((L.eraseIdx v).map V.int)) nlr hlf
      refine ds_rapp hD2 hp (by omega) fun o hD3 => ?_
      have npl : p ≠ lf := fun e => hlf (e ▸ hpm)
      refine k1 _ (L.eraseIdx v) _ (ex_mut (ex_mut eC n9) (hps p hpm)) ?_ hD3 ?_ ?_ ?_
      · show (upd (upd HC lf _) p o) lf = _
        rw [upd_ne npl.symm]; exact upd_same
      · have hvL := (List.getElem?_eq_some_iff.mp hz).1
        rw [List.length_eraseIdx, if_pos hvL]; omega
      · rw [flat_last hDn, List.append_assoc]
        exact (List.Perm.append_left _ (erase_perm hz)).trans hperm
      · rw [List.length_set]; exact hDl
    have addrow : ∀ (Z : Ends) (H' : Hp), Ex H8 H' → IsI H' lf L → IsDs H' rw_ ps D → (∀ q o H', H8 q = none → q ∉ ps → q ≠ lf → Ex H8 (upd H' rw_ o) → IsI (upd H' rw_ o) lf L → IsDs (upd H' rw_ o) rw_ (ps ++ [q]) (D ++ [[]]) → Z.nx [some (.ref a), some (.int 1), some (.int 8), some (.int (t : Int)), some (.int (th : Int)), some (.int (ba : Int)), some (.int (o1 : Int)), some (.int (o2 : Int)), some (.int (i : Int)), some (.ref dp), some (.ref dc), some (.ref lf), some (.ref rw_), none] (upd H' rw_ o)) →
        tDrop (tBM K "list" rAppend (tVar 12) (tCons (tLst tNil) tNil)) Z
          [some (.ref a), some (.int 1), some (.int 8), some (.int (t : Int)), some (.int (th : Int)), some (.int (ba : Int)), some (.int (o1 : Int)), some (.int (o2 : Int)), some (.int (i : Int)), some (.ref dp), some (.ref dc), some (.ref lf), some (.ref rw_), none] H' := by
      intro Z HC eC hL hD k1
      walk_at "S"
      refine ⟨ds_ty hD, ?_⟩
      walk_at "S"
      refine new0 fun q HE eE nE hE => ?_
      have nq8 : H8 q = none := ex_back eC nE
      have nqp : q ∉ ps := fun hq => by obtain ⟨o, ho⟩ := hD.mem hq; rw [ho] at nE; cases nE
      have nql : q ≠ lf := by rintro rfl; rw [show HC q = _ from hL] at nE; cases nE
      have nqr : q ≠ rw_ := by rintro rfl; rw [hD.l] at nE; cases nE
      walk_at "S"
      refine ds_app (hD.ex' eE) hE nqp nqr (by omega) fun o hD2 => ?_
      refine k1 q o HE nq8 nqp nql (ex_mut (eC.trans eE) nrw) ?_ hD2
      show (upd HE rw_ o) lf = _
      rw [upd_ne nlr]; exact hL.ex eE
    have grown : ∀ {q : Addr}, H8 q = none → (∀ p ∈ ps ++ [q], H8 p = none) := fun {q} hq p hp => by
      rcases List.mem_append.mp hp with hp | hp
      · exact hps p hp
      · rw [List.mem_singleton.mp hp]; exact hq
    have flat1 : (D ++ [([] : List Int)]).flatten = D.flatten := by rw [List.flatten_append]; simp
    walk_at "S"
    obtain ⟨c, hc, _⟩ := drawn_get (i := i) hct (by rw [List.getElem?_replicate, if_pos hi])
    refine a_ix (hdc.ex eB) hc ?_
    walk_at "S"
    refine iteEq (fun c0 => ?_) (fun c0 => ?_)
    · rw [if_pos rfl]
      refine addrow _ _ eB hL hD fun q o HC nq8 nqp nql eC hLC hDC => ?_
      refine rest _ _ _ _ eC hLC hDC (grown nq8) (by rw [flat1]; exact hperm) (by rw [List.length_append, List.length_singleton]; omega) (by simp) (fun h => (List.mem_append.mp h).elim hlf fun h => nql (List.mem_singleton.mp h).symm) fun D L H' e h1 h2 h3 h4 h5 => ?_
      exact ⟨_, _, D, L, rfl, e, h1, h2, grown nq8, h3, h4, h5, fun h => (List.mem_append.mp h).elim hlf fun h => nql (List.mem_singleton.mp h).symm⟩
    · walk_at "S"
      refine ds_len hD ?_
      walk_at "S"
      refine iteEq (fun c1 => ?_) (fun c1 => ?_)
      · refine addrow _ _ eB hL hD fun q o HC nq8 nqp nql eC hLC hDC => ?_
        refine rest _ _ _ _ eC hLC hDC (grown nq8) (by rw [flat1]; exact hperm) (by rw [List.length_append, List.length_singleton]; omega) (by simp) (fun h => (List.mem_append.mp h).elim hlf fun h => nql (List.mem_singleton.mp h).symm) fun D L H' e h1 h2 h3 h4 h5 => ?_
        exact ⟨_, _, D, L, rfl, e, h1, h2, grown nq8, h3, h4, h5, fun h => (List.mem_append.mp h).elim hlf fun h => nql (List.mem_singleton.mp h).symm⟩
      · walk_at "s"
        refine rest _ _ _ _ eB hL hD hps hperm (by omega) (by rintro rfl; exact c1 rfl) hlf fun D L H' e h1 h2 h3 h4 h5 => ?_
        exact ⟨_, _, D, L, rfl, e, h1, h2, hps, h3, h4, h5, hlf⟩
  · rintro σ HB ⟨y8, ps, D, L, rfl, eB, hL, hD, hps, hLl, hperm, hDl, hlf⟩
    have hL0 : L = [] := List.length_eq_zero_iff.mp (by omega)
    subst hL0
    rw [List.append_nil] at hperm
    walk_at "S"
    refine newL (by show 2 ≤ 1000000; decide) fun pC HC eC nC hC => ?_
    walk_at "S"
    refine ⟨_, _, rfl, ?_⟩
    walk_at "S"
    have hmx : (if (ba : Int) - 1 > 0 then (ba : Int) - 1 else 0) = (((ba - 1 : Nat)) : Int) := by split <;> omega
    rw [hmx]
    refine a_to (ns := [(o1 : Int), (o2 : Int)]) hC fun pE HE eE nE hE => ?_
    refine forL (xs := ([(o1 : Int), (o2 : Int)].take (ba - 1)).map V.int) (Pv := fun i σ H' => ∃ y8 y13 ps D, σ = [some (.ref a), some (.int 1), some (.int 8), some (.int (t : Int)), some (.int (th : Int)), some (.int (ba : Int)), some (.int (o1 : Int)), some (.int (o2 : Int)), y8, some (.ref dp), some (.ref dc), some (.ref lf), some (.ref rw_), y13] ∧
      Ex H8 H' ∧ IsI H' pE ([(o1 : Int), (o2 : Int)].take (ba - 1)) ∧ IsDs H' rw_ ps D ∧ D.flatten.Perm (rng (2 * t)) ∧ D.length ≤ 2 * t + i ∧ pE ≠ rw_) (fun i σ H' ⟨_, _, _, _, _, _, h, _⟩ => h.sq) ⟨_, _, ps, D, rfl, (eB.trans eC).trans eE, hE, (hD.ex' eC).ex' eE, hperm, hDl, by rintro rfl; rw [(hD.ex' eC).l] at nE; cases nE⟩ ?_ ?_
    · rintro i x σ HF hx ⟨y8, y13, ps, D, rfl, eF, hE, hD, hperm, hDl, hne⟩
      have hi2 : i < 2 := by
        have := (List.getElem?_eq_some_iff.mp hx).1
        rw [List.length_map, List.length_take] at this
        have e : [(o1 : Int), (o2 : Int)].length = 2 := rfl
        omega
      obtain ⟨z, hz, rfl⟩ := getM' hx
      have hz0 : ∃ n : Nat, z = (n : Int) := by
        have := List.mem_of_mem_take (List.mem_of_getElem? hz)
        simp at this
        rcases this with h | h
        · exact ⟨o1, h⟩
        · exact ⟨o2, h⟩
      obtain ⟨n, rfl⟩ := hz0
      walk_at "S"
      refine ⟨ds_ty hD, ?_⟩
      walk_at "S"
      refine ds_len hD ?_
      walk_at "S"
      have e1 : ((D.length : Nat) : Int) + 1 = ((D.length + 1 : Nat) : Int) := by omega
      rw [e1]
      refine s_I (show ((D.length + 1 : Nat) : Int) ≠ 0 by omega) ?_
      rw [fmod_nat]
      have hmod : n % (D.length + 1) < D.length + 1 := Nat.mod_lt _ (by omega)
      walk_at "S"
      refine new0 fun q HG eG nG hG => ?_
      have nq8 : H8 q = none := ex_back eF nG
      have nqp : q ∉ ps := fun hq => by obtain ⟨o, ho⟩ := hD.mem hq; rw [ho] at nG; cases nG
      have nqr : q ≠ rw_ := by rintro rfl; rw [hD.l] at nG; cases nG
      walk_at "S"
      refine ds_ins (hD.ex' eG) hG nqp nqr (by omega) (by omega) fun o hD2 => ?_
      refine ⟨_, _, _, _, rfl, ex_mut (eF.trans eG) nrw, ?_, hD2, by rw [flat_ins]; exact hperm, ?_, hne⟩
      · show (upd HG rw_ o) pE = _
        rw [upd_ne hne]; exact hE.ex eG
      · simp only [List.length_append, List.length_take, List.length_drop, List.length_singleton]; omega
    · rintro σ HF ⟨y8, y13, ps, D, rfl, eF, hE, hD, hperm, hDl, hne⟩
      have hEl : (([(o1 : Int), (o2 : Int)].take (ba - 1)).map V.int).length ≤ 2 := by
        rw [List.length_map, List.length_take]
        have e : [(o1 : Int), (o2 : Int)].length = 2 := rfl
        omega
      walk_at "S"
      refine ⟨rw_, D, rfl, hD.toD, by omega, fun r hr => ?_, fun HG q D' eG nG hG hrows => ?_⟩
      · have h1 := row_le hr
        rw [hperm.length_eq, len_rng] at h1
        omega
      · refine k HG q D' (e08.trans (eF.trans eG)) (ex_back (e08.trans eF) nG) hG ⟨t, rows_valid (valid_rng hperm) hrows, by omega, ?_⟩
        rw [hrows.1]; omega

section
variable {P : Program} {w : World} {K : PySem.W.Frag} {mg : Str → Option Value} {base : Heap}
theorem sc_law_drawing : FnScope N_law_drawing ["_law_script", "_law_base", "_law_most"] (defScope s_law_drawing) := ⟨rfl, rfl, rfl, by decide +kernel, rfl, by decide +kernel, by decide +kernel⟩
theorem cal_law_drawing (B : Blt mg) (D : Dfn K mg "_law_drawing" s_law_drawing ["_law_script", "_law_base", "_law_most"]) (C_law_draws : Cal P w K mg base CX0 1 "_law_draws" ["_law_cell_here", "_law_sizes"] (sp_law_draws K)) (C_law_cell : Cal P w K mg base CX0 1 "_law_cell" ["_law_script", "_law_k"] (sp_law_cell K)) (C_law_settled : Cal P w K mg base CX0 1 "_law_settled" ["_law_rows"] (sp_law_settled K)) : Cal P w K mg base CX0 2 "_law_drawing" ["_law_script", "_law_base", "_law_most"] (sp_law_drawing K) := by
  refine cal_mk D fun f fd F => F.ok sc_law_drawing (fun vs H Q E h => len_law_drawing h) (fun cdv A outer s H vs Q E hr h => ⟨t_law_drawing K, ?_, pure_law_drawing vs H Q E h⟩)
  have hu := hu_of hr
  exact (pss_cons (ps_asg (pe_cal C_law_draws hr (by decide) (by rfl) (pa_cons (pe_cal C_law_cell hr (by decide) (by rfl) (pa_cons (pv 0) (pa_cons (pv 1) pa_nil))) (pa_cons (pe_lst (pa_cons (pe_op op_add (pv 2) pe_int) (pa_cons pe_int (pa_cons pe_int (pa_cons pe_int (pa_cons pe_int pa_nil)))))) pa_nil))) (pg_unl rfl (pgs_cons (pg_name (i := 3) sc_law_drawing.nd rfl (Or.inr rfl)) (pgs_cons (pg_name (i := 4) sc_law_drawing.nd rfl (Or.inl rfl)) (pgs_cons (pg_name (i := 5) sc_law_drawing.nd rfl (Or.inl rfl)) (pgs_cons (pg_name (i := 6) sc_law_drawing.nd rfl (Or.inl rfl)) (pgs_cons (pg_name (i := 7) sc_law_drawing.nd rfl (Or.inl rfl)) pgs_nil)))))))
        (pss_cons (ps_set (i := 9) sc_law_drawing.nd rfl (Or.inl rfl) (pe_cal C_law_draws hr (by decide) (by rfl) (pa_cons (pe_cal C_law_cell hr (by decide) (by rfl) (pa_cons (pv 0) (pa_cons (pe_op op_add (pv 1) pe_int) pa_nil))) (pa_cons (pe_lc (own := [("_law_k", 8)]) (g := gName 8) rfl sc_law_drawing.nd (pi_range1 (by rfl) B.range_ (pa_cons (pe_op op_mul pe_int (pv 3)) pa_nil)) (blkOk_by (own := [("_law_k", 8)]) (N := N_law_drawing) (sc := (defScope s_law_drawing)) (by decide +kernel)) (fun _ _ _ _ _ => pg_name (i := 8) sc_law_drawing.nd rfl (Or.inl rfl)) (fun _ _ _ _ _ => pts_nil) (fun _ _ _ _ _ => (pe_op op_sub (pe_op op_mul pe_int (pv 3)) (pv 8)))) pa_nil))))
        (pss_cons (ps_set (i := 10) sc_law_drawing.nd rfl (Or.inl rfl) (pe_cal C_law_draws hr (by decide) (by rfl) (pa_cons (pe_cal C_law_cell hr (by decide) (by rfl) (pa_cons (pv 0) (pa_cons (pe_op op_add (pv 1) pe_int) pa_nil))) (pa_cons (pe_op op_rep (pe_lst (pa_cons (pe_ix ix_list (pe_lst (pa_cons pe_int (pa_cons pe_int (pa_cons pe_int (pa_cons pe_int pa_nil))))) (pv 4) (fun _ _ => rfl)) pa_nil)) (pe_op op_mul pe_int (pv 3))) pa_nil))))
        (pss_cons (ps_set (i := 11) sc_law_drawing.nd rfl (Or.inl rfl) (pe_listRg rfl (by rfl) B.list_ (prg_1 (by rfl) B.range_ (pe_op op_mul pe_int (pv 3)))))
        (pss_cons (ps_set (i := 12) sc_law_drawing.nd rfl (Or.inl rfl) (pe_lst pa_nil))
        (pss_cons (ps_for PassesOwn.never rfl (pi_range1 (by rfl) B.range_ (pa_cons (pe_op op_mul pe_int (pv 3)) pa_nil)) (pg_name (i := 8) sc_law_drawing.nd rfl (Or.inl rfl)) (pss_cons (ps_if (PW.pt (pw_or (pt_cmpR op_eq (pe_ix ix_list (pv 10) (pv 8) (fun _ _ => rfl)) pe_int (nomark _)) (pw_or1 (pt_cmpR op_eq (pe_callB call_len_seq (by rfl) B.len_ PySem.boot_len (pa_cons (pv 12) pa_nil)) pe_int (nomark _))))) (pss_one (ps_expr (pe_bm PySem.F.plainAttrs_list PySem.F.slot_list_append PySem.F.type_list_append mt_append (pv 12) (pa_cons (pe_lst pa_nil) pa_nil)))) pss_nil)
          (pss_one (ps_expr (pe_bm PySem.F.plainAttrs_list PySem.F.slot_list_append PySem.F.type_list_append mt_append (pe_ix ix_list (pv 12) (pe_un un_neg pe_int) (fun _ _ => rfl)) (pa_cons (pe_bm PySem.F.plainAttrs_list PySem.F.slot_list_pop PySem.F.type_list_pop mt_popAt (pv 11) (pa_cons (pe_ix ix_list (pv 9) (pv 8) (fun _ _ => rfl)) pa_nil)) pa_nil))))))
        (pss_cons (ps_for PassesOwn.never rfl (pi_list (pe_slice sl_list (pe_lst (pa_cons (pv 6) (pa_cons (pv 7) pa_nil))) po_none (po_some (pe_callB (call_max2 rfl) (by rfl) B.max_ (by decide +kernel) (pa_cons pe_int (pa_cons (pe_op op_sub (pv 5) pe_int) pa_nil)))))) (pg_name (i := 13) sc_law_drawing.nd rfl (Or.inl rfl)) (pss_one (ps_expr (pe_bm PySem.F.plainAttrs_list PySem.F.slot_list_insert PySem.F.type_list_insert mt_insert (pv 12) (pa_cons (pe_op op_modN (pv 13) (pe_op op_add (pe_callB call_len_seq (by rfl) B.len_ PySem.boot_len (pa_cons (pv 12) pa_nil)) pe_int)) (pa_cons (pe_lst pa_nil) pa_nil))))))
        (pss_one (ps_ret (pe_cal C_law_settled hr (by decide) (by rfl) (pa_cons (pv 12) pa_nil)))))))))))
end

abbrev s_law_seats : Stmt := top 30
abbrev N_law_seats : List Str := ["_law_drawing_here", "_law_seats_here", "_law_place", "_law_end"]
-- slots: 0 drawing_here, 1 seats_here, 2 place, 3 end
def t_law_seats (K : PySem.W.Frag) : TS :=
  (tSeq (tAsg tDNewK (gName 1))
        (tSeq (tFor (iRng1 (tCons (tCB (bLen K) (tCons (tVar 0) tNil)) tNil)) (gName 2) (tFor (iList K (tOp (rIxL K) (tVar 0) (tVar 2))) (gName 3) (sDPut (tVar 1) (tVar 3) (tVar 2))))
        (tRet (tVar 1))))
theorem len_law_seats {K : PySem.W.Frag} {vs : List V} {H : Hp} {Q : VK} {E : XK} (h : sp_law_seats K vs H Q E) : vs.length = (["_law_drawing_here"] : List Str).length := by
  obtain ⟨a, D, m, rfl, _⟩ := h; rfl
theorem pure_law_seats {K : PySem.W.Frag} (vs : List V) (H : Hp) (Q : VK) (E : XK) (h : sp_law_seats K vs H Q E) : t_law_seats K { nx := fun _ H' => Q .non H', rt := Q } (start N_law_seats vs) H := by
  obtain ⟨a, D, m, rfl, hD, hv, hm, hl, k⟩ := h
  unfold t_law_seats
  walk_at "S"
  refine s_dnew fun p H1 e1 n1 h1 => ?_
  walk_at "S"
  refine a_lenD (hD.ex' e1) ?_
  refine forR (n := D.length) (by omega) (fun i σ H' => ∃ y2 y3, σ = [some (.ref a), some (.ref p), y2, y3] ∧ Ex H H' ∧ IsK H' p (D.take i).flatten (fun z => .int ((seat D z : Nat) : Int))) ⟨_, _, rfl, e1, k_new _ h1⟩ ?_ ?_
  · rintro i σ H2 hi ⟨y2, y3, rfl, e2, hk⟩
    have hr : D[i]? = some D[i] := List.getElem?_eq_getElem hi
    have hrl := hv.rowlen hr
    walk_at "S"
    obtain ⟨ps, q1, q2, q3⟩ := hD.ex
    have hpx : ps[i]? = some ps[i] := List.getElem?_eq_getElem (by omega)
    refine ⟨_, _, _, _, rfl, rfl, sq (e2 _ _ q1), atI_nat (j := i) (by rw [List.getElem?_map, hpx]; rfl), ?_⟩
    refine forI (q3 i _ _ hpx hr) (fun t σ H' => ∃ y3, σ = [some (.ref a), some (.ref p), some (.int (i : Int)), y3] ∧ Ex H H' ∧ IsK H' p ((D.take i).flatten ++ D[i].take t) (fun z => .int ((seat D z : Nat) : Int))) ⟨_, rfl, e2, by rw [List.take_zero, List.append_nil]; exact hk⟩ (fun i σ H' ⟨_, _, e, _⟩ => e) ?_ ?_
    · rintro t z σ H3 hz e3 ⟨y3, rfl, _, hk⟩
      have hln := take_flat_le (i := i) hv
      walk_at "S"
      refine k_put hk (ahead hv.nd hr hz) (by rw [List.length_append, List.length_take]; omega) ?_ fun o hk' => ?_
      · rw [seat_of hv.nd hr (List.mem_of_getElem? hz)]
      · refine ⟨_, rfl, ex_mut e3 n1, ?_⟩
        rw [List.take_add_one, hz, ← List.append_assoc]
        exact hk'
    · rintro σ H3 ⟨y3, rfl, e3, hk⟩
      rw [List.take_length, ← take_flat hr] at hk
      exact ⟨_, _, rfl, e3, hk⟩
  · rintro σ H2 ⟨y2, y3, rfl, e2, hk⟩
    walk_at "S"
    rw [List.take_length] at hk
    exact k H2 p _ e2 n1 hk.toM fun z => rfl

section
variable {P : Program} {w : World} {K : PySem.W.Frag} {mg : Str → Option Value} {base : Heap}
theorem sc_law_seats : FnScope N_law_seats ["_law_drawing_here"] (defScope s_law_seats) := ⟨rfl, rfl, rfl, by decide +kernel, rfl, by decide +kernel, by decide +kernel⟩
theorem cal_law_seats (B : Blt mg) (D : Dfn K mg "_law_seats" s_law_seats ["_law_drawing_here"])  : Cal P w K mg base CX0 1 "_law_seats" ["_law_drawing_here"] (sp_law_seats K) := by
  refine cal_mk D fun f fd F => F.ok sc_law_seats (fun vs H Q E h => len_law_seats h) (fun cdv A outer s H vs Q E hr h => ⟨t_law_seats K, ?_, pure_law_seats vs H Q E h⟩)
  have hu := hu_of hr
  exact (pss_cons (ps_set (i := 1) sc_law_seats.nd rfl (Or.inl rfl) pe_dnewK)
        (pss_cons (ps_for PassesOwn.never rfl (pi_range1 (by rfl) B.range_ (pa_cons (pe_callB call_len_seq (by rfl) B.len_ PySem.boot_len (pa_cons (pv 0) pa_nil)) pa_nil)) (pg_name (i := 2) sc_law_seats.nd rfl (Or.inl rfl)) (pss_one (ps_for PassesOwn.never rfl (pi_list (pe_ix ix_list (pv 0) (pv 2) (fun _ _ => rfl))) (pg_name (i := 3) sc_law_seats.nd rfl (Or.inl rfl)) (pss_one (ps_dput hu (pv 1) (pv 3) (pv 2) rfl)))))
        (pss_one (ps_ret (pv 1)))))
end

abbrev s_law_behind : Stmt := top 31
abbrev N_law_behind : List Str := ["_law_drawing_here", "_law_behind_here", "_law_row", "_law_k"]
-- slots: 0 drawing_here, 1 behind_here, 2 row, 3 k
def t_law_behind (K : PySem.W.Frag) : TS :=
  (tSeq (tAsg tDNewK (gName 1))
        (tSeq (tFor (iList K (tVar 0)) (gName 2) (tFor (iRng1 (tCons (tCB (bLen K) (tCons (tVar 2) tNil)) tNil)) (gName 3) (sDPut (tVar 1) (tOp (rIxL K) (tVar 2) (tVar 3)) (tOp (rIxL K) (tVar 2) (tOp rMod (tOp rAdd (tVar 3) (tC (.int 1))) (tCB (bLen K) (tCons (tVar 2) tNil)))))))
        (tRet (tVar 1))))
theorem len_law_behind {K : PySem.W.Frag} {vs : List V} {H : Hp} {Q : VK} {E : XK} (h : sp_law_behind K vs H Q E) : vs.length = (["_law_drawing_here"] : List Str).length := by
  obtain ⟨a, D, m, rfl, _⟩ := h; rfl
theorem pure_law_behind {K : PySem.W.Frag} (vs : List V) (H : Hp) (Q : VK) (E : XK) (h : sp_law_behind K vs H Q E) : t_law_behind K { nx := fun _ H' => Q .non H', rt := Q } (start N_law_behind vs) H := by
  obtain ⟨a, D, m, rfl, hD, hv, hm, hl, k⟩ := h
  unfold t_law_behind
  walk_at "S"
  refine s_dnew fun p H1 e1 n1 h1 => ?_
  walk_at "S"
  refine forD hD (fun i σ H' => ∃ y2 y3, σ = [some (.ref a), some (.ref p), y2, y3] ∧ Ex H H' ∧ IsK H' p (D.take i).flatten (fun z => .int (sig D z))) ⟨_, _, rfl, e1, k_new _ h1⟩ (fun i σ H' ⟨_, _, _, e, _⟩ => e) ?_ ?_
  · rintro i q r σ H2 hr hq hq0 ⟨y2, y3, rfl, e2, hk⟩
    have hrl := hv.rowlen hr
    walk_at "S"
    refine a_len hq ?_
    refine forR (n := r.length) (by omega) (fun t σ H' => ∃ y3, σ = [some (.ref a), some (.ref p), some (.ref q), y3] ∧ Ex H H' ∧ IsK H' p ((D.take i).flatten ++ r.take t) (fun z => .int (sig D z))) ⟨_, rfl, e2, by rw [List.take_zero, List.append_nil]; exact hk⟩ ?_ ?_
    · rintro t σ H3 ht ⟨y3, rfl, e3, hk⟩
      have hz : r[t]? = some r[t] := List.getElem?_eq_getElem ht
      have hs := sig_row hv.nd hr hz
      have hln := take_flat_le (i := i) hv
      have et : (t : Int) + 1 = ((t + 1 : Nat) : Int) := by omega
      walk_at "S"
      refine a_len (hq0.ex e3) ?_
      refine s_I (show (r.length : Int) ≠ 0 by omega) ?_
      rw [et, fmod_nat]
      refine a_ix (hq0.ex e3) hs ?_
      walk_at "S"
      refine a_ix (hq0.ex e3) hz ?_
      refine k_put hk (ahead hv.nd hr hz) (by rw [List.length_append, List.length_take]; omega) rfl fun o hk' => ?_
      refine ⟨_, rfl, ex_mut e3 n1, ?_⟩
      rw [List.take_add_one, hz, ← List.append_assoc]
      exact hk'
    · rintro σ H3 ⟨y3, rfl, e3, hk⟩
      rw [List.take_length, ← take_flat hr] at hk
      exact ⟨_, _, rfl, e3, hk⟩
  · rintro σ H2 ⟨y2, y3, rfl, e2, hk⟩
    walk_at "S"
    rw [List.take_length] at hk
    obtain ⟨kvs, q1, q2, q3⟩ := hk.ex
    have hln := congrArg List.length q2
    rw [List.length_map, List.length_map, hv.ln] at hln
    exact k H2 p kvs e2 n1 q1 hln q3

section
variable {P : Program} {w : World} {K : PySem.W.Frag} {mg : Str → Option Value} {base : Heap}
theorem sc_law_behind : FnScope N_law_behind ["_law_drawing_here"] (defScope s_law_behind) := ⟨rfl, rfl, rfl, by decide +kernel, rfl, by decide +kernel, by decide +kernel⟩
theorem cal_law_behind (B : Blt mg) (D : Dfn K mg "_law_behind" s_law_behind ["_law_drawing_here"])  : Cal P w K mg base CX0 1 "_law_behind" ["_law_drawing_here"] (sp_law_behind K) := by
  refine cal_mk D fun f fd F => F.ok sc_law_behind (fun vs H Q E h => len_law_behind h) (fun cdv A outer s H vs Q E hr h => ⟨t_law_behind K, ?_, pure_law_behind vs H Q E h⟩)
  have hu := hu_of hr
  exact (pss_cons (ps_set (i := 1) sc_law_behind.nd rfl (Or.inl rfl) pe_dnewK)
        (pss_cons (ps_for PassesOwn.never rfl (pi_list (pv 0)) (pg_name (i := 2) sc_law_behind.nd rfl (Or.inl rfl)) (pss_one (ps_for PassesOwn.never rfl (pi_range1 (by rfl) B.range_ (pa_cons (pe_callB call_len_seq (by rfl) B.len_ PySem.boot_len (pa_cons (pv 2) pa_nil)) pa_nil)) (pg_name (i := 3) sc_law_behind.nd rfl (Or.inl rfl)) (pss_one (ps_dput hu (pv 1) (pe_ix ix_list (pv 2) (pv 3) (fun _ _ => rfl)) (pe_ix ix_list (pv 2) (pe_op op_modN (pe_op op_add (pv 3) pe_int) (pe_callB call_len_seq (by rfl) B.len_ PySem.boot_len (pa_cons (pv 2) pa_nil))) (fun _ _ => rfl)) rfl)))))
        (pss_one (ps_ret (pv 1)))))
end

abbrev s_law_lands : Stmt := top 32
abbrev N_law_lands : List Str := ["_law_drawing_here", "_law_behind_here", "_law_seen", "_law_lands_here", "_law_start", "_law_land", "_law_end", "_law_row"]
-- slots: 0 drawing_here, 1 behind_here, 2 seen, 3 lands_here, 4 start, 5 land, 6 end, 7 row
def t_law_lands (K : PySem.W.Frag) : TS :=
  (tSeq (tAsg (tCal (sp_law_behind K) (tCons (tVar 0) tNil)) (gName 1))
        (tSeq (tAsg tDNewK (gName 2))
        (tSeq (tAsg (tLst tNil) (gName 3))
        (tSeq (tFor (iRng1 (tCons (tCB bLenD (tCons (tVar 1) tNil)) tNil)) (gName 4) (tSeq (tAsg (tLst tNil) (gName 5))
          (tSeq (tAsg (tVar 4) (gName 6))
          (tSeq (tWhile (tB (tDNotIn (tVar 6) (tVar 2))) (tSeq (sDPut (tVar 2) (tVar 6) (tC (.bl true)))
            (tSeq (tDrop (tBM K "list" rAppend (tVar 5) (tCons (tVar 6) tNil)))
            (tAsg (tDGet (tVar 1) (tCal (sp_law_mate K) (tCons (tVar 6) tNil))) (gName 6)))))
          (tIfS (tTest (tOp rGt (tCB (bLen K) (tCons (tVar 5) tNil)) (tC (.int 0)))) (tDrop (tBM K "list" rAppend (tVar 3) (tCons (tVar 5) tNil))) tNext)))))
        (tRet (tOp rCat (tVar 3) (tLc (iList K (tVar 0)) (gName 7) (tTest (tOp rEq (tCB (bLen K) (tCons (tVar 7) tNil)) (tC (.int 0)))) (tLst tNil) [7])))))))
theorem len_law_lands {K : PySem.W.Frag} {vs : List V} {H : Hp} {Q : VK} {E : XK} (h : sp_law_lands K vs H Q E) : vs.length = (["_law_drawing_here"] : List Str).length := by
  obtain ⟨a, D, m, rfl, _⟩ := h; rfl
theorem pure_law_lands {K : PySem.W.Frag} (vs : List V) (H : Hp) (Q : VK) (E : XK) (h : sp_law_lands K vs H Q E) : t_law_lands K { nx := fun _ H' => Q .non H', rt := Q } (start N_law_lands vs) H := by
  obtain ⟨a, D, m, rfl, hD, hv, hm, hl, k⟩ := h
  unfold t_law_lands
  walk_at "S"
  refine ⟨a, D, m, rfl, hD, hv, hm, hl, fun H1 b kvs e1 _ hb hbl hbg => ?_⟩
  have hB : IsT H1 b (fun z => if z ∈ D.flatten then some (.int (sig D z)) else none) (2 * m) := ⟨⟨kvs, hb, by omega, hbg⟩⟩
  walk_at "S"
  refine s_dnew fun s H2 e2 n2 h2 => ?_
  have ns : H s = none := ex_back e1 n2
  walk_at "S"
  refine new0 fun p H3 e3 n3 h3 => ?_
  have e03 := (e1.trans e2).trans e3
  have np : H p = none := ex_back (e1.trans e2) n3
  have nps : p ≠ s := by rintro rfl; rw [h2] at n3; cases n3
  have nsb : s ≠ b := by rintro rfl; rw [hb] at n2; cases n2
  have npb : p ≠ b := by rintro rfl; rw [e2 _ _ hb] at n3; cases n3
  walk_at "S"
  refine ⟨b, kvs, rfl, e3 _ _ (e2 _ _ hb), ?_⟩
  rw [hbl]
  walk_at "S"
  refine forR (n := 2 * m) (by omega) (fun i σ H' => ∃ y4 y5 y6 Ls, σ = [some (.ref a), some (.ref b), some (.ref s), some (.ref p), y4, y5, y6, none] ∧ Ex H H' ∧ IsT H' b (fun z => if z ∈ D.flatten then some (.int (sig D z)) else none) (2 * m) ∧ IsK H' s Ls.flatten (fun _ => .bl true) ∧ IsD H' p Ls ∧ LandsTo D i Ls)
    ⟨_, _, _, [], rfl, e03, (hB.ex' e2).ex' e3, (k_new _ h2).ex' e3, h3.nilD, lands_start⟩ ?_ ?_
  · rintro i σ H4 hi ⟨y4, y5, y6, Ls, rfl, e4, hB4, hS4, hp4, hL⟩
    have hif : (i : Int) ∈ D.flatten := hv.mem (by omega) (by omega)
    walk_at "S"
    refine new0 fun q H5 e5 n5 h5 => ?_
    have nq : H q = none := ex_back e4 n5
    have nqs : q ≠ s := by obtain ⟨kv, z, _⟩ := hS4.ex; rintro rfl; rw [z] at n5; cases n5
    have nqb : q ≠ b := by obtain ⟨kv, z, _⟩ := hB4.ex; rintro rfl; rw [z] at n5; cases n5
    have nqp : q ≠ p := by obtain ⟨ps, z, _⟩ := hp4.ex; rintro rfl; rw [z] at n5; cases n5
    obtain ⟨ps, z1, z2, z3⟩ := hp4.ex
    have nxq : ∀ (j : Nat) (x : Addr) (r : List Int), ps[j]? = some x → Ls[j]? = some r → x ≠ q := fun j x r hx hr => by
      have z4 := z3 j x r hx hr
      rintro rfl; rw [show H4 x = _ from z4] at n5; cases n5
    walk_at "S"
    refine whileW (fun g σ H' => ∃ l e, g = 2 * m - l.length ∧ σ = [some (.ref a), some (.ref b), some (.ref s), some (.ref p), some (.int (i : Int)), some (.ref q), some (.int e), none] ∧ Ex H H' ∧ IsT H' b (fun z => if z ∈ D.flatten then some (.int (sig D z)) else none) (2 * m) ∧ IsK H' s (Ls.flatten ++ l) (fun _ => .bl true) ∧ (H' p = some (.lst (ps.map V.ref)) ∧ ∀ (j : Nat) (x : Addr) (r : List Int), ps[j]? = some x → Ls[j]? = some r → IsI H' x r) ∧ IsI H' q l ∧ LandTo D Ls.flatten (i : Int) l e)
      _ ⟨[], (i : Int), rfl, rfl, e4.trans e5, hB4.ex' e5, by rw [List.append_nil]; exact hS4.ex' e5, ⟨e5 _ _ z1, fun j x r hx hr => (z3 j x r hx hr).ex e5⟩, h5, land_start hL.nd hif⟩ ?_
    rintro g σ H6 ⟨l, e, rfl, rfl, e6, hB6, hS6, ⟨hp6, hr6⟩, hq6, hl⟩
    have hlen : (Ls.flatten ++ l).length ≤ 2 * m := by
      have := nodup_len (m := D.flatten) hl.nd fun x hx => (List.mem_append.mp hx).elim (hL.sub x) (hl.sub x)
      rw [hv.ln] at this; exact this
    walk_at "S"
    refine k_nin hS6 fun c hc => ?_
    walk_at "S"
    refine iteBn (fun c2 => ?_) (fun c2 => ?_)
    · have he : e ∉ Ls.flatten ++ l := fun z => by rw [hc.mpr z] at c2; cases c2
      have hlen2 : l.length < 2 * m := by
        have := nodup_len (l := e :: l) (m := D.flatten) (List.nodup_cons.mpr ⟨fun z => he (List.mem_append_right _ z), (List.nodup_append.mp hl.nd).2.1⟩) (fun x hx => by
          rcases List.mem_cons.mp hx with rfl | hx
          · exact hl.st
          · exact hl.sub x hx)
        rw [hv.ln, List.length_cons] at this
        omega
      refine whT ?_
      walk_at "S"
      refine k_put hS6 he (by omega) rfl fun o hS7 => ?_
      have hq7 : IsI (upd H6 s o) q l := by show (upd H6 s o) q = _; rw [upd_ne nqs]; exact hq6
      have hr7 : ∀ (j : Nat) (x : Addr) (r : List Int), ps[j]? = some x → Ls[j]? = some r → IsI (upd H6 s o) x r := fun j x r hx hr => by
        have z4 := hr6 j x r hx hr
        show (upd H6 s o) x = _
        obtain ⟨kv, z, _⟩ := hS6.ex
        rw [upd_ne (by rintro rfl; rw [show H6 x = _ from z4] at z; cases z)]; exact z4
      have hB7 : IsT (upd H6 s o) b (fun z => if z ∈ D.flatten then some (.int (sig D z)) else none) (2 * m) := by
        obtain ⟨kv, z, z'⟩ := hB6.ex
        exact ⟨⟨kv, by rw [upd_ne nsb.symm]; exact z, z'⟩⟩
      walk_at "S"
      refine ⟨tyl hq7, ?_⟩
      walk_at "S"
      refine a_app hq7 (by omega) ?_
      have hB8 : IsT (upd (upd H6 s o) q (.lst ((l ++ [e]).map V.int))) b (fun z => if z ∈ D.flatten then some (.int (sig D z)) else none) (2 * m) := by
        obtain ⟨kv, z, z'⟩ := hB7.ex
        exact ⟨⟨kv, by rw [upd_ne nqb.symm]; exact z, z'⟩⟩
      walk_at "S"
      refine t_get hB8 (if_pos (hv.mt hl.st)) ?_
      refine ⟨_, ?_, l ++ [e], _, rfl, rfl, ex_mut (ex_mut e6 ns) nq, hB8, ?_, ⟨?_, fun j x r hx hr => ?_⟩, upd_same, land_step hv hl he⟩
      · rw [List.length_append, List.length_singleton]; omega
      · obtain ⟨kv, z, z'⟩ := hS7.ex
        refine ⟨⟨kv, by rw [upd_ne nqs.symm]; exact z, ?_⟩⟩
        rw [← List.append_assoc]
        exact z'
      · rw [upd_ne nqp.symm, upd_ne nps]; exact hp6
      · show (upd (upd H6 s o) q _) x = _
        rw [upd_ne (nxq j x r hx hr)]
        exact hr7 j x r hx hr
    · have he : e ∈ Ls.flatten ++ l := hc.mp c2
      obtain ⟨le1, le2⟩ := land_end hv hi hL hl he
      have hp6 : IsD H6 p Ls := ⟨⟨ps, hp6, z2, hr6⟩⟩
      walk_at "S"
      refine a_len hq6 ?_
      walk_at "S"
      refine iteD (fun c3 => ?_) (fun c3 => ?_)
      · have hne : l ≠ [] := by rintro rfl; exact absurd c3 (by decide)
        have L2 := le2 hne
        walk_at "S"
        refine ⟨tylD hp6, ?_⟩
        walk_at "S"
        refine a_appD' hp6 nqp (by have := hL.len; omega) hq6 fun o hp7 => ?_
        refine ⟨_, _, _, Ls ++ [l], rfl, ex_mut e6 np, ?_, ?_, hp7, L2⟩
        · obtain ⟨kv, z, z'⟩ := hB6.ex
          exact ⟨⟨kv, by rw [upd_ne npb.symm]; exact z, z'⟩⟩
        · obtain ⟨kv, z, z'⟩ := hS6.ex
          refine ⟨⟨kv, by rw [upd_ne nps.symm]; exact z, ?_⟩⟩
          rw [List.flatten_append]
          show _ = (_ ++ ([l] : Dr).flatten).map _ ∧ _
          rw [List.flatten_cons, List.flatten_nil, List.append_nil]
          exact z'
      · have hne : l = [] := List.length_eq_zero_iff.mp (by omega)
        subst hne
        rw [List.append_nil] at hS6
        walk_at "S"
        exact ⟨_, _, _, Ls, rfl, e6, hB6, hS6, hp6, le1 rfl⟩
  · rintro σ H4 ⟨y4, y5, y6, Ls, rfl, e4, hB4, hS4, hp4, hL⟩
    walk_at "S"
    refine lcE (hD.ex' e4) (by omega) (fun r => decide (V.int (r.length : Nat) = V.int 0)) (fun r hr q H5 hq e5 R k1 => ?_) (fun r hr q H5 hq e5 R k1 => ?_) fun q H5 n e5 n5 hq hn => ?_
    · walk_at "S"
      refine a_len hq ?_
      walk_at "S"
      exact k1 H5 (Ex.refl H5)
    · walk_at "S"
      exact new0 fun q2 H6 e6 n6 h6 => k1 q2 H6 e6 n6 h6
    have hlen := hL.len
    refine a_catD (hp4.ex' e5) hq (by rw [List.length_replicate]; omega) fun q2 H6 e6 n6 h6 => ?_
    exact k H6 q2 _ ((e4.trans e5).trans e6) (ex_back (e4.trans e5) n6) h6 ⟨lands_done hv hL, by rw [List.length_append, List.length_replicate]; omega⟩

section
variable {P : Program} {w : World} {K : PySem.W.Frag} {mg : Str → Option Value} {base : Heap}
theorem sc_law_lands : FnScope N_law_lands ["_law_drawing_here"] (defScope s_law_lands) := ⟨rfl, rfl, rfl, by decide +kernel, rfl, by decide +kernel, by decide +kernel⟩
theorem cal_law_lands (B : Blt mg) (D : Dfn K mg "_law_lands" s_law_lands ["_law_drawing_here"]) (C_law_behind : Cal P w K mg base CX0 1 "_law_behind" ["_law_drawing_here"] (sp_law_behind K)) (C_law_mate : Cal P w K mg base CX0 1 "_law_mate" ["_law_end"] (sp_law_mate K)) : Cal P w K mg base CX0 2 "_law_lands" ["_law_drawing_here"] (sp_law_lands K) := by
  refine cal_mk D fun f fd F => F.ok sc_law_lands (fun vs H Q E h => len_law_lands h) (fun cdv A outer s H vs Q E hr h => ⟨t_law_lands K, ?_, pure_law_lands vs H Q E h⟩)
  have hu := hu_of hr
  exact (pss_cons (ps_set (i := 1) sc_law_lands.nd rfl (Or.inl rfl) (pe_cal C_law_behind hr (by decide) (by rfl) (pa_cons (pv 0) pa_nil)))
        (pss_cons (ps_set (i := 2) sc_law_lands.nd rfl (Or.inl rfl) pe_dnewK)
        (pss_cons (ps_set (i := 3) sc_law_lands.nd rfl (Or.inl rfl) (pe_lst pa_nil))
        (pss_cons (ps_for PassesOwn.never rfl (pi_range1 (by rfl) B.range_ (pa_cons (pe_callB call_lenD (by rfl) B.len_ PySem.boot_len (pa_cons (pv 1) pa_nil)) pa_nil)) (pg_name (i := 4) sc_law_lands.nd rfl (Or.inl rfl)) (pss_cons (ps_set (i := 5) sc_law_lands.nd rfl (Or.inl rfl) (pe_lst pa_nil))
          (pss_cons (ps_set (i := 6) sc_law_lands.nd rfl (Or.inl rfl) (pv 4))
          (pss_cons (ps_while PassesOwn.never (pt_cmp (pc_dnotin hu (pv 6) (pv 2))) (pss_cons (ps_dput hu (pv 2) (pv 6) pe_bl rfl)
            (pss_cons (ps_expr (pe_bm PySem.F.plainAttrs_list PySem.F.slot_list_append PySem.F.type_list_append mt_append (pv 5) (pa_cons (pv 6) pa_nil)))
            (pss_one (ps_set (i := 6) sc_law_lands.nd rfl (Or.inl rfl) (pe_dget hu (pv 1) (pe_cal C_law_mate hr (by decide) (by rfl) (pa_cons (pv 6) pa_nil)) (fun _ _ => rfl)))))))
          (pss_one (ps_if (pt_cmpR op_gt (pe_callB call_len_seq (by rfl) B.len_ PySem.boot_len (pa_cons (pv 5) pa_nil)) pe_int (nomark _)) (pss_one (ps_expr (pe_bm PySem.F.plainAttrs_list PySem.F.slot_list_append PySem.F.type_list_append mt_append (pv 3) (pa_cons (pv 5) pa_nil)))) pss_nil))))))
        (pss_one (ps_ret (pe_op op_cat (pv 3) (pe_lc (own := [("_law_row", 7)]) (g := gName 7) rfl sc_law_lands.nd (pi_list (pv 0)) (blkOk_by (own := [("_law_row", 7)]) (N := N_law_lands) (sc := (defScope s_law_lands)) (by decide +kernel)) (fun _ _ _ _ _ => pg_name (i := 7) sc_law_lands.nd rfl (Or.inl rfl)) (fun _ _ _ _ _ => (pts_one (pt_cmpR op_eq (pe_callB call_len_seq (by rfl) B.len_ PySem.boot_len (pa_cons (pv 7) pa_nil)) pe_int (nomark _)))) (fun _ _ _ _ _ => (pe_lst pa_nil))))))))))
end

abbrev s_law_tied : Stmt := top 33
abbrev N_law_tied : List Str := ["_law_rows", "_law_tie", "_law_one", "_law_two", "_law_high", "_law_lands_here", "_law_home", "_law_number", "_law_end", "_law_first", "_law_ends", "_law_second", "_law_name", "_law_row"]
-- slots: 0 rows, 1 tie, 2 one, 3 two, 4 high, 5 lands_here, 6 home, 7 number, 8 end, 9 first, 10 ends, 11 second, 12 name, 13 row
def t_law_tied (K : PySem.W.Frag) : TS :=
  (tSeq (tIfS (tTest (tOp rEq (tVar 1) (tC (.int 0)))) (tSeq (tDrop (tBM K "list" rExtend (tOp (rIxL K) (tVar 0) (tC (.int 0))) (tCons (tLst (tCons (tC (.int 0)) (tCons (tC (.int 1)) tNil))) tNil)))
          tRetN) tNext)
        (tSeq (tAsg (tCal (sp_law_lands K) (tCons (tVar 0) tNil)) (gName 5))
        (tSeq (tAsg tDNewK (gName 6))
        (tSeq (tFor (iRng1 (tCons (tCB (bLen K) (tCons (tVar 5) tNil)) tNil)) (gName 7) (tFor (iList K (tOp (rIxL K) (tVar 5) (tVar 7))) (gName 8) (sDPut (tVar 6) (tVar 8) (tVar 7))))
        (tSeq (tAsg (tOp rMod (tVar 2) (tOp rMul (tC (.int 2)) (tVar 1))) (gName 9))
        (tSeq (tAsg (tLc (iRng1 (tCons (tOp rMul (tC (.int 2)) (tVar 1)) tNil)) (gName 8) (tTest (tOp rEq (tOp rNe (tDGet (tVar 6) (tVar 8)) (tDGet (tVar 6) (tVar 9))) (tVar 4))) (tVar 8) [8]) (gName 10))
        (tSeq (tAsg (tOp (rIxL K) (tVar 10) (tOp rMod (tVar 3) (tCB (bLen K) (tCons (tVar 10) tNil)))) (gName 11))
        (tFor (iList K (tLst (tCons (tTup (tCons (tOp rMul (tC (.int 2)) (tVar 1)) (tCons (tVar 9) tNil))) (tCons (tTup (tCons (tOp rAdd (tOp rMul (tC (.int 2)) (tVar 1)) (tC (.int 1))) (tCons (tVar 11) tNil))) tNil)))) (gTup K 2 (gCons (gName 12) (gCons (gName 8) gNil))) (tFor (iList K (tVar 0)) (gName 13) (tIfS (tTest (tOp (rIn K false) (tVar 8) (tVar 13))) (tDrop (tBM K "list" mIns (tVar 13) (tCons (tBM K "list" (rIndex K) (tVar 13) (tCons (tVar 8) tNil)) (tCons (tVar 12) tNil)))) tNext))))))))))
theorem len_law_tied {K : PySem.W.Frag} {vs : List V} {H : Hp} {Q : VK} {E : XK} (h : sp_law_tied K vs H Q E) : vs.length = (["_law_rows", "_law_tie", "_law_one", "_law_two", "_law_high"] : List Str).length := by
  obtain ⟨a, ps, D, m, o, t, hi, rfl, _⟩ := h; rfl
theorem idx_first {ns : List Int} {z : Int} {j : Nat} (hj : ns[j]? = some z) (hn : ∀ m : Nat, m < j → ns[m]? ≠ some z) : ns.idxOf z = j := by
  have hm := List.mem_of_getElem? hj
  have hl := List.idxOf_lt_length_of_mem hm
  have hg : ns[ns.idxOf z]? = some z := by rw [List.getElem?_eq_getElem hl, List.getElem_idxOf hl]
  rcases Nat.lt_trichotomy (ns.idxOf z) j with h | h | h
  · exact absurd hg (hn _ h)
  · exact h
  · have := List.not_of_lt_findIdx (p := (· == z)) (xs := ns) (i := j) (by
      show j < ns.findIdx (· == z)
      exact h)
    obtain ⟨g1, g2⟩ := List.getElem?_eq_some_iff.mp hj
    simp at this
    exact absurd g2 this
theorem pure_law_tied {K : PySem.W.Frag} (vs : List V) (H : Hp) (Q : VK) (E : XK) (h : sp_law_tied K vs H Q E) : t_law_tied K { nx := fun _ H' => Q .non H', rt := Q } (start N_law_tied vs) H := by
  obtain ⟨a, ps, D, m, o, t, hi, rfl, hD, hv, hm, hl, hl0, ho, ht, h0, hhi, k⟩ := h
  unfold t_law_tied
  walk_at "S"
  refine iteEq (fun c => ?_) (fun c => ?_)
  · -- the first tie of all
    have hm0 : m = 0 := by omega
    subst hm0
    have hD0 := h0 rfl
    subst hD0
    have hf : hi = false := by
      cases hi with
      | false => rfl
      | true => exact absurd (hhi rfl).1 (by decide)
    walk_at "S"
    refine ds_ix (j := 0) hD hl0 fun p hp => ?_
    have hrow : IsI H p [] := hD.row hp
    refine ⟨tyl hrow, ?_⟩
    walk_at "S"
    refine newL (by show 2 ≤ 1000000; decide) fun q H1 e1 n1 h1 => ?_
    walk_at "S"
    refine a_ext (hrow.ex e1) (ms := [0, 1]) h1 (by show 2 ≤ 1000000; decide) ?_
    walk_at "S"
    have hD1 := ds_set (r := [0, 1]) (hD.ex' e1) hp
    refine k _ [[0, 1]] ((exB_of e1).upd (List.mem_cons_of_mem _ (List.mem_of_getElem? hp))) hD1 (valid_rng (List.Perm.refl _)) (fun _ => ⟨0, 1, by decide, by decide, ?_⟩) rfl
    have key : ∀ z, Orb [[0, 1]] 0 z → z = 0 := fun z hz => by
      induction hz with
      | base => rfl
      | step _ ih => rw [ih]; decide
    intro z
    exact absurd (key 1 z) (by decide)
  walk_at "S"
  refine ⟨a, D, m, rfl, hD.toD, hv, by omega, by omega, fun H1 lp Ls e1 nlp hLs ⟨hL, hLl⟩ => ?_⟩
  walk_at "S"
  refine s_dnew fun hp H2 e2 n2 h2 => ?_
  have nh : H hp = none := ex_back e1 n2
  walk_at "S"
  refine a_lenD (hLs.ex' e2) ?_
  have hLn : Ls.flatten.length = 2 * m := by
    have a1 := nodup_len (m := D.flatten) hL.nd fun x hx => (hL.mem x).mp hx
    have a2 := nodup_len (m := Ls.flatten) hv.nd fun x hx => (hL.mem x).mpr hx
    rw [hv.ln] at a1 a2
    omega
  refine forR (n := Ls.length) (by omega) (fun i σ H' => ∃ y7 y8, σ = [some (.ref a), some (.int (m : Int)), some (.int (o : Int)), some (.int (t : Int)), some (.bl hi), some (.ref lp), some (.ref hp), y7, y8, none, none, none, none, none] ∧ Ex H1 H' ∧ IsK H' hp (Ls.take i).flatten (fun z => .int ((seat Ls z : Nat) : Int))) ⟨_, _, rfl, e2, k_new _ h2⟩ ?_ ?_
  · rintro i σ H3 hi' ⟨y7, y8, rfl, e3, hk⟩
    have hr : Ls[i]? = some Ls[i] := List.getElem?_eq_getElem hi'
    have hrl : Ls[i].length ≤ 2 * m := by rw [← hLn]; exact row_le (List.getElem_mem hi')
    have htl : (Ls.take i).flatten.length ≤ 2 * m := by
      have : Ls.flatten = (Ls.take i).flatten ++ (Ls.drop i).flatten := by rw [← List.flatten_append, List.take_append_drop]
      have := congrArg List.length this
      rw [List.length_append, hLn] at this
      omega
    walk_at "S"
    obtain ⟨qs, q1, q2, q3⟩ := hLs.ex
    obtain ⟨q, hq⟩ : ∃ q, qs[i]? = some q := ⟨_, List.getElem?_eq_getElem (by omega)⟩
    refine ⟨_, _, _, _, rfl, rfl, sq (e3 _ _ q1), atI_nat (j := i) (by rw [List.getElem?_map, hq]; rfl), ?_⟩
    refine forI (q3 i _ _ hq hr) (fun t' σ H' => ∃ y8, σ = [some (.ref a), some (.int (m : Int)), some (.int (o : Int)), some (.int (t : Int)), some (.bl hi), some (.ref lp), some (.ref hp), some (.int (i : Int)), y8, none, none, none, none, none] ∧ Ex H1 H' ∧ IsK H' hp ((Ls.take i).flatten ++ Ls[i].take t') (fun z => .int ((seat Ls z : Nat) : Int))) ⟨_, rfl, e3, by rw [List.take_zero, List.append_nil]; exact hk⟩ (fun i σ H' ⟨_, _, e, _⟩ => e) ?_ ?_
    · rintro t' z σ H4 hz e4 ⟨y8, rfl, _, hk⟩
      walk_at "S"
      refine k_put hk (ahead hL.nd hr hz) (by rw [List.length_append, List.length_take]; omega) ?_ fun o' hk' => ?_
      · rw [seat_of hL.nd hr (List.mem_of_getElem? hz)]
      · refine ⟨_, rfl, ex_mut e4 n2, ?_⟩
        rw [List.take_add_one, hz, ← List.append_assoc]
        exact hk'
    · rintro σ H4 ⟨y8, rfl, e4, hk⟩
      rw [List.take_length, ← take_flat hr] at hk
      exact ⟨_, _, rfl, e4, hk⟩
  rintro σ H3 ⟨y7, y8, rfl, e3, hk⟩
  rw [List.take_length] at hk
  have e03 := e1.trans e3
  walk_at "S"
  have e2m : (2 : Int) * (m : Int) = ((2 * m : Nat) : Int) := by omega
  rw [e2m]
  refine s_I (cmod (show ((2 * m : Nat) : Int) ≠ 0 by omega)) ?_
  rw [fmod_nat]
  have hxl : o % (2 * m) < 2 * m := Nat.mod_lt _ (by omega)
  generalize o % (2 * m) = x at hxl
  have hxf : (x : Int) ∈ D.flatten := hv.mem (by omega) (by omega)
  walk_at "S"
  rw [e2m]
  refine lcR (2 * m) (by omega) (fun i => decide (V.bl (!decide (V.int ((seat Ls (i : Int) : Nat) : Int) = V.int ((seat Ls (x : Int) : Nat) : Int))) = V.bl hi)) (fun i => (i : Int)) (fun i hi' H4 e4 R r => ?_) (fun i hi' _ H4 e4 R r => ?_) fun ep H4 e4 n4 h4 => ?_
  · walk_at "S"
    refine k_get (hk.ex' e4) ((hL.mem _).mpr (hv.mem (by omega) (by omega))) ?_
    walk_at "S"
    refine k_get (hk.ex' e4) ((hL.mem _).mpr hxf) ?_
    walk_at "S"
    exact r H4 (Ex.refl H4)
  · walk_at "S"
    exact r H4 (Ex.refl H4)
  generalize hes : ((List.range (2 * m)).filter fun i : Nat => decide (V.bl (!decide (V.int ((seat Ls (i : Int) : Nat) : Int) = V.int ((seat Ls (x : Int) : Nat) : Int))) = V.bl hi)) = es at h4
  -- there is such an end
  have hne : es ≠ [] := by
    intro q
    rw [q] at hes
    have none_ : ∀ i, i < 2 * m → ¬ (V.bl (!decide (V.int ((seat Ls (i : Int) : Nat) : Int) = V.int ((seat Ls (x : Int) : Nat) : Int))) = V.bl hi) := fun i hi' z => by
      have : i ∈ ([] : List Nat) := by rw [← hes]; exact List.mem_filter.mpr ⟨List.mem_range.mpr hi', decide_eq_true z⟩
      cases this
    cases hi with
    | false => exact none_ x hxl (by simp)
    | true =>
      obtain ⟨_, u, v, hu, hv', huv⟩ := hhi rfl
      have same : ∀ {e : Int}, e ∈ D.flatten → seat Ls e = seat Ls (x : Int) := fun {e} he => by
        have hr := hv.rg e he
        have h1 := none_ e.toNat (by omega)
        rw [show ((e.toNat : Nat) : Int) = e by omega] at h1
        refine Classical.byContradiction fun h2 => h1 ?_
        have : ¬ V.int ((seat Ls e : Nat) : Int) = V.int ((seat Ls (x : Int) : Nat) : Int) := fun z => h2 (by have := V.int.inj z; omega)
        simp [this]
      exact huv (land_one hL hu hv' ((same hu).trans (same hv').symm))
  have hel : 0 < es.length := List.length_pos_iff.mpr hne
  walk_at "S"
  refine a_len h4 ?_
  rw [List.length_map]
  refine s_I (cmod (show ((es.length : Nat) : Int) ≠ 0 by omega)) ?_
  rw [fmod_nat]
  have hyl : t % es.length < es.length := Nat.mod_lt _ hel
  obtain ⟨y, hy⟩ : ∃ y, es[t % es.length]? = some y := ⟨_, List.getElem?_eq_getElem hyl⟩
  have hym : y ∈ es := List.mem_of_getElem? hy
  rw [← hes] at hym
  obtain ⟨hy1, hy2⟩ := List.mem_filter.mp hym
  have hy1 := List.mem_range.mp hy1
  have hy2 := of_decide_eq_true hy2
  have hyf : (y : Int) ∈ D.flatten := hv.mem (by omega) (by omega)
  refine a_ix h4 (z := (y : Int)) (by rw [List.getElem?_map, hy]; rfl) ?_
  walk_at "S"
  rw [e2m]
  walk_at "S"
  refine newT (by show 2 ≤ 1000000; decide) fun t1 H5 e5 n5 h5 => ?_
  walk_at "S"
  rw [e2m]
  walk_at "S"
  refine newT (by show 2 ≤ 1000000; decide) fun t2 H6 e6 n6 h6 => ?_
  walk_at "S"
  refine newL (by show 2 ≤ 1000000; decide) fun tl H7 e7 n7 h7 => ?_
  have e37 := ((e4.trans e5).trans e6).trans e7
  have hD7 := hD.ex' (e03.trans e37)
  have fresh : ∀ {q : Addr}, H q = none → q ∉ a :: ps := fun {q} hq hm => by
    rcases List.mem_cons.mp hm with h | h
    · rw [h, hD.l] at hq; cases hq
    · obtain ⟨u, hu⟩ := hD.mem h
      rw [hu] at hq; cases hq
  have f1 := fresh (ex_back (e03.trans e4) n5)
  have f2 := fresh (ex_back ((e03.trans e4).trans e5) n6)
  have f3 := fresh (ex_back (((e03.trans e4).trans e5).trans e6) n7)
  have hnf : (2 * (m : Int)) ∉ D.flatten := fun q => by have := hv.rg _ q; omega
  have hlen : ∀ r ∈ D, r.length ≤ 200 := fun r hr => by
    have := row_le hr
    rw [hv.ln] at this; omega
  -- one end is stood ahead of another one, row by row
  have inner : ∀ (F : Dr) (n z : Int) (H8 : Hp) (Z : Ends) (y7 y13 : Option V), ExB (a :: ps) H7 H8 → IsDs H8 a ps F → (∀ r ∈ F, r.length ≤ 300) → F.length = D.length →
      (∀ y13 H9, ExB (a :: ps) H7 H9 → IsDs H9 a ps (F.map (insB z n)) → Z.nx [some (.ref a), some (.int (m : Int)), some (.int (o : Int)), some (.int (t : Int)), some (.bl hi), some (.ref lp), some (.ref hp), y7, some (.int z), some (.int ((x : Nat) : Int)), some (.ref ep), some (.int ((y : Nat) : Int)), some (.int n), y13] H9) →
      tFor (iList K (tVar 0)) (gName 13) (tIfS (tTest (tOp (rIn K false) (tVar 8) (tVar 13))) (tDrop (tBM K "list" mIns (tVar 13) (tCons (tBM K "list" (rIndex K) (tVar 13) (tCons (tVar 8) tNil)) (tCons (tVar 12) tNil)))) tNext) Z
        [some (.ref a), some (.int (m : Int)), some (.int (o : Int)), some (.int (t : Int)), some (.bl hi), some (.ref lp), some (.ref hp), y7, some (.int z), some (.int ((x : Nat) : Int)), some (.ref ep), some (.int ((y : Nat) : Int)), some (.int n), y13] H8 := by
    intro F n z H8 Z y7 y13 e8 hF hFl hFn k1
    walk_at "S"
    refine forL (xs := ps.map V.ref) (Pv := fun i σ H' => ∃ y13, σ = [some (.ref a), some (.int (m : Int)), some (.int (o : Int)), some (.int (t : Int)), some (.bl hi), some (.ref lp), some (.ref hp), y7, some (.int z), some (.int ((x : Nat) : Int)), some (.ref ep), some (.int ((y : Nat) : Int)), some (.int n), y13] ∧ ExB (a :: ps) H7 H' ∧ IsDs H' a ps ((F.take i).map (insB z n) ++ F.drop i)) (fun i σ H' ⟨_, _, _, h⟩ => sq h.l) ⟨_, rfl, e8, hF⟩ ?_ ?_
    · rintro i v σ H9 hv9 ⟨y13, rfl, e9, hF9⟩
      rw [List.getElem?_map] at hv9
      obtain ⟨p, hp', rfl⟩ : ∃ p, ps[i]? = some p ∧ v = .ref p := by
        cases q : ps[i]? with
        | none => rw [q] at hv9; cases hv9
        | some p => rw [q] at hv9; exact ⟨p, rfl, (Option.some.inj hv9).symm⟩
      have hip := (List.getElem?_eq_some_iff.mp hp').1
      have hiF : i < F.length := by rw [hFn, ← hD.n]; exact hip
      have hcur : ((F.take i).map (insB z n) ++ F.drop i).getD i [] = F[i] := by
        rw [List.getD_eq_getElem?_getD, List.getElem?_append_right (by rw [List.length_map, List.length_take]; omega), List.length_map, List.length_take, Nat.min_eq_left (by omega), Nat.sub_self, List.getElem?_drop, Nat.add_zero, List.getElem?_eq_getElem hiF]; rfl
      have hrow := hF9.row hp'
      rw [hcur] at hrow
      have hrl := hFl F[i] (List.getElem_mem hiF)
      have hset : ∀ r, ((F.take i).map (insB z n) ++ F.drop i).set i r = (F.take i).map (insB z n) ++ r :: F.drop (i + 1) := fun r => by
        have hl1 : ((F.take i).map (insB z n)).length = i := by rw [List.length_map, List.length_take]; omega
        rw [List.set_append_right _ _ (by omega), hl1, Nat.sub_self, List.drop_eq_getElem_cons hiF]; rfl
      have hnext : ∀ r, r = insB z n F[i] → (F.take i).map (insB z n) ++ r :: F.drop (i + 1) = (F.take (i + 1)).map (insB z n) ++ F.drop (i + 1) := fun r hr => by
        rw [List.take_add_one, List.getElem?_eq_getElem hiF, List.map_append, hr, List.append_assoc]; rfl
      walk_at "S"
      refine a_in hrow ?_
      walk_at "S"
      refine iteD (fun c => ?_) (fun c => ?_)
      · walk_at "S"
        refine ⟨tyl hrow, ?_⟩
        walk_at "S"
        refine ⟨tyl hrow, ?_⟩
        walk_at "S"
        refine a_index hrow c fun j hj hjn => ?_
        have hij := idx_first hj hjn
        have hjl := (List.getElem?_eq_some_iff.mp hj).1
        walk_at "S"
        refine ds_rins hF9 hp' (by rw [hcur]; omega) (by omega) fun o' hF10 => ?_
        rw [hcur, hset, hnext _ (by unfold insB; rw [if_pos c, hij])] at hF10
        exact ⟨_, rfl, e9.upd (List.mem_cons_of_mem _ (List.mem_of_getElem? hp')), hF10⟩
      · walk_at "S"
        refine ⟨_, rfl, e9, ?_⟩
        have := hnext F[i] (by unfold insB; rw [if_neg c])
        rw [← this, ← List.drop_eq_getElem_cons hiF]
        exact hF9
    · rintro σ H9 ⟨y13, rfl, e9, hF9⟩
      rw [List.length_map, hD.n, ← hFn, List.take_length, List.drop_length, List.append_nil] at hF9
      exact k1 y13 H9 e9 hF9
  have nd1 := (ins_perm (n := 2 * (m : Int)) hv.nd hxf)
  have hl1 : ∀ r ∈ D.map (insB (x : Int) (2 * (m : Int))), r.length ≤ 300 := fun r hr => by
    have := row_le hr
    rw [nd1.length_eq, List.length_cons, hv.ln] at this
    omega
  refine forLT (xs := [.ref t1, .ref t2]) (Pv := fun i σ H' => ∃ y7 y8 y12 y13, σ = [some (.ref a), some (.int (m : Int)), some (.int (o : Int)), some (.int (t : Int)), some (.bl hi), some (.ref lp), some (.ref hp), y7, y8, some (.int ((x : Nat) : Int)), some (.ref ep), some (.int ((y : Nat) : Int)), y12, y13] ∧ ExB (a :: ps) H7 H' ∧
      IsDs H' a ps (match i with | 0 => D | 1 => D.map (insB (x : Int) (2 * (m : Int))) | _ => tie D (2 * m) (x : Int) (y : Int))) (fun i σ H' ⟨_, _, _, _, _, e, _⟩ => sq (e _ _ f3 h7)) ⟨_, _, _, _, rfl, exB_of (Ex.refl H7), hD7⟩ ?_ ?_
  · rintro i v σ H8 hv8 ⟨y7, y8, y12, y13, rfl, e8, hF⟩
    match i, hv8, hF with
    | 0, hv8, hF =>
      refine ⟨t1, _, _, (Option.some.inj hv8).symm, .inl (.inl (e8 _ _ f1 (e7 _ _ (e6 _ _ h5)))), ?_⟩
      refine inner D _ _ H8 _ _ _ e8 hF (fun r hr => by have := hlen r hr; omega) rfl fun y13 H9 e9 hF9 => ?_
      refine ⟨_, _, _, _, rfl, e9, ?_⟩
      have : (((2 * m : Nat) : Int)) = 2 * (m : Int) := by omega
      rw [this] at hF9
      exact hF9
    | 1, hv8, hF =>
      refine ⟨t2, _, _, (Option.some.inj hv8).symm, .inl (.inl (e8 _ _ f2 (e7 _ _ h6))), ?_⟩
      refine inner (D.map (insB (x : Int) (2 * (m : Int)))) _ _ H8 _ _ _ e8 hF hl1 (List.length_map _) fun y13 H9 e9 hF9 => ?_
      refine ⟨_, _, _, _, rfl, e9, ?_⟩
      have : (((2 * m : Nat) : Int)) + 1 = 2 * (m : Int) + 1 := by omega
      rw [this] at hF9
      exact hF9
    | i + 2, hv8, _ => simp at hv8
  · rintro σ H8 ⟨y7, y8, y12, y13, rfl, e8, hF⟩
    have hF : IsDs H8 a ps (tie D (2 * m) (x : Int) (y : Int)) := hF
    have hvt := ins_valid hv hxf hyf
    walk_at "S"
    refine k H8 _ ((exB_of (e03.trans e37)).trans e8) hF hvt (fun hf => ⟨2 * m + 1, 2 * m, hvt.mem (by omega) (by omega), hvt.mem (by omega) (by omega), ?_⟩) (by unfold tie; rw [List.length_map, List.length_map])
    subst hf
    refine tie_apart hv hxf hyf (land_one hL hxf hyf ?_)
    have h3 : (!decide (V.int ((seat Ls (y : Int) : Nat) : Int) = V.int ((seat Ls (x : Int) : Nat) : Int))) = false := V.bl.inj hy2
    have h4 : decide (V.int ((seat Ls (y : Int) : Nat) : Int) = V.int ((seat Ls (x : Int) : Nat) : Int)) = true := by
      cases q : decide (V.int ((seat Ls (y : Int) : Nat) : Int) = V.int ((seat Ls (x : Int) : Nat) : Int)) with
      | true => rfl
      | false => rw [q] at h3; cases h3
    have := V.int.inj (of_decide_eq_true h4)
    omega

section
variable {P : Program} {w : World} {K : PySem.W.Frag} {mg : Str → Option Value} {base : Heap}
theorem sc_law_tied : FnScope N_law_tied ["_law_rows", "_law_tie", "_law_one", "_law_two", "_law_high"] (defScope s_law_tied) := ⟨rfl, rfl, rfl, by decide +kernel, rfl, by decide +kernel, by decide +kernel⟩
theorem cal_law_tied (B : Blt mg) (D : Dfn K mg "_law_tied" s_law_tied ["_law_rows", "_law_tie", "_law_one", "_law_two", "_law_high"]) (C_law_lands : Cal P w K mg base CX0 2 "_law_lands" ["_law_drawing_here"] (sp_law_lands K)) : Cal P w K mg base CX0 3 "_law_tied" ["_law_rows", "_law_tie", "_law_one", "_law_two", "_law_high"] (sp_law_tied K) := by
  refine cal_mk D fun f fd F => F.ok sc_law_tied (fun vs H Q E h => len_law_tied h) (fun cdv A outer s H vs Q E hr h => ⟨t_law_tied K, ?_, pure_law_tied vs H Q E h⟩)
  have hu := hu_of hr
  exact (pss_cons (ps_if (pt_cmpR op_eq (pv 1) pe_int (nomark _)) (pss_cons (ps_expr (pe_bm PySem.F.plainAttrs_list PySem.F.slot_list_extend PySem.F.type_list_extend mt_extend (pe_ix ix_list (pv 0) pe_int (fun _ _ => rfl)) (pa_cons (pe_lst (pa_cons pe_int (pa_cons pe_int pa_nil))) pa_nil)))
          (pss_one ps_retN)) pss_nil)
        (pss_cons (ps_set (i := 5) sc_law_tied.nd rfl (Or.inl rfl) (pe_cal C_law_lands hr (by decide) (by rfl) (pa_cons (pv 0) pa_nil)))
        (pss_cons (ps_set (i := 6) sc_law_tied.nd rfl (Or.inr rfl) pe_dnewK)
        (pss_cons (ps_for PassesOwn.never rfl (pi_range1 (by rfl) B.range_ (pa_cons (pe_callB call_len_seq (by rfl) B.len_ PySem.boot_len (pa_cons (pv 5) pa_nil)) pa_nil)) (pg_name (i := 7) sc_law_tied.nd rfl (Or.inl rfl)) (pss_one (ps_for PassesOwn.never rfl (pi_list (pe_ix ix_list (pv 5) (pv 7) (fun _ _ => rfl))) (pg_name (i := 8) sc_law_tied.nd rfl (Or.inl rfl)) (pss_one (ps_dput hu (pv 6) (pv 8) (pv 7) rfl)))))
        (pss_cons (ps_set (i := 9) sc_law_tied.nd rfl (Or.inr rfl) (pe_op op_modN (pv 2) (pe_op op_mul pe_int (pv 1))))
        (pss_cons (ps_setLc (i := 10) (own := [("_law_end", 8)]) (g := gName 8) rfl sc_law_tied.nd rfl rfl (sw_true rfl rfl rfl (by decide +kernel)) (pi_range1 (by rfl) B.range_ (pa_cons (pe_op op_mul pe_int (pv 1)) pa_nil)) (blkOk_by (own := [("_law_end", 8)]) (N := N_law_tied) (sc := (defScope s_law_tied)) (by decide +kernel)) (fun _ _ _ _ _ => pg_name (i := 8) sc_law_tied.nd rfl (Or.inl rfl)) (fun _ _ _ _ _ => (pts_one (pt_cmpR op_eq (pe_cmpR op_ne (pe_dget hu (pv 6) (pv 8) (fun _ _ => rfl)) (pe_dget hu (pv 6) (pv 9) (fun _ _ => rfl)) (nomark _)) (pv 4) (nomark _)))) (fun _ _ _ _ _ => (pv 8)))
        (pss_cons (ps_set (i := 11) sc_law_tied.nd rfl (Or.inl rfl) (pe_ix ix_list (pv 10) (pe_op op_modN (pv 3) (pe_callB call_len_seq (by rfl) B.len_ PySem.boot_len (pa_cons (pv 10) pa_nil))) (fun _ _ => rfl)))
        (pss_one (ps_for PassesOwn.never rfl (pi_list (pe_lst (pa_cons (pe_tup (pa_cons (pe_op op_mul pe_int (pv 1)) (pa_cons (pv 9) pa_nil))) (pa_cons (pe_tup (pa_cons (pe_op op_add (pe_op op_mul pe_int (pv 1)) pe_int) (pa_cons (pv 11) pa_nil))) pa_nil)))) (pg_tup rfl (pgs_cons (pg_name (i := 12) sc_law_tied.nd rfl (Or.inl rfl)) (pgs_cons (pg_name (i := 8) sc_law_tied.nd rfl (Or.inl rfl)) pgs_nil))) (pss_one (ps_for PassesOwn.never rfl (pi_list (pv 0)) (pg_name (i := 13) sc_law_tied.nd rfl (Or.inl rfl)) (pss_one (ps_if (pt_cmpR op_in_seq (pv 8) (pv 13) (by rfl)) (pss_one (ps_expr (pe_bm PySem.F.plainAttrs_list PySem.F.slot_list_insert PySem.F.type_list_insert mt_insert (pv 13) (pa_cons (pe_bm PySem.F.plainAttrs_list PySem.F.slot_list_index PySem.F.type_list_index mt_index (pv 13) (pa_cons (pv 8) pa_nil)) (pa_cons (pv 12) pa_nil))))) pss_nil)))))))))))))
end

abbrev s_law_renamed : Stmt := top 34
abbrev N_law_renamed : List Str := ["_law_rows", "_law_ties", "_law_cell_here", "_law_k", "_law_picks", "_law_left", "_law_names", "_law_tie", "_law_name", "_law_found", "_law_row", "_law_end"]
-- slots: 0 rows, 1 ties, 2 cell_here, 3 k, 4 picks, 5 left, 6 names, 7 tie, 8 name, 9 found, 10 row, 11 end
def t_law_renamed (K : PySem.W.Frag) : TS :=
  (tSeq (tAsg (tCal (sp_law_draws K) (tCons (tVar 2) (tCons (tOp rCat (tOp rCat (tLc (iRng1 (tCons (tVar 1) tNil)) (gName 3) tYes (tOp rSub (tVar 1) (tVar 3)) [3]) (tOp rRep (tLst (tCons (tC (.int 2)) tNil)) (tVar 1))) (tLc (iRng1 (tCons (tCB (bLen K) (tCons (tVar 0) tNil)) tNil)) (gName 3) tYes (tOp rSub (tCB (bLen K) (tCons (tVar 0) tNil)) (tVar 3)) [3])) tNil))) (gName 4))
        (tSeq (tAsg (tLstRg (tRg1 (tVar 1))) (gName 5))
        (tSeq (tAsg tDNewK (gName 6))
        (tSeq (tFor (iRng1 (tCons (tVar 1) tNil)) (gName 7) (tSeq (tAsg (tBM K "list" rPopAt (tVar 5) (tCons (tOp (rIxL K) (tVar 4) (tVar 7)) tNil)) (gName 8))
          (tSeq (sDPut (tVar 6) (tOp rMul (tC (.int 2)) (tVar 7)) (tOp rAdd (tOp rMul (tC (.int 2)) (tVar 8)) (tOp (rIxL K) (tVar 4) (tOp rAdd (tVar 1) (tVar 7)))))
          (sDPut (tVar 6) (tOp rAdd (tOp rMul (tC (.int 2)) (tVar 7)) (tC (.int 1))) (tOp rSub (tOp rAdd (tOp rMul (tC (.int 2)) (tVar 8)) (tC (.int 1))) (tOp (rIxL K) (tVar 4) (tOp rAdd (tVar 1) (tVar 7))))))))
        (tSeq (tAsg (tLc (iList K (tVar 0)) (gName 10) tYes (tLc (iList K (tVar 10)) (gName 11) tYes (tDGet (tVar 6) (tVar 11)) [11]) [10]) (gName 5))
        (tSeq (tAsg (tLst tNil) (gName 9))
        (tSeq (tFor (iRng1 (tCons (tCB (bLen K) (tCons (tVar 0) tNil)) tNil)) (gName 3) (tDrop (tBM K "list" rAppend (tVar 9) (tCons (tBM K "list" rPopAt (tVar 5) (tCons (tOp (rIxL K) (tVar 4) (tOp rAdd (tOp rMul (tC (.int 2)) (tVar 1)) (tVar 3))) tNil)) tNil))))
        (tRet (tCal (sp_law_settled K) (tCons (tVar 9) tNil))))))))))
theorem len_law_renamed {K : PySem.W.Frag} {vs : List V} {H : Hp} {Q : VK} {E : XK} (h : sp_law_renamed K vs H Q E) : vs.length = (["_law_rows", "_law_ties", "_law_cell_here"] : List Str).length := by
  obtain ⟨a, D, m, c, rfl, _⟩ := h; rfl
theorem pure_law_renamed {K : PySem.W.Frag} (vs : List V) (H : Hp) (Q : VK) (E : XK) (h : sp_law_renamed K vs H Q E) : t_law_renamed K { nx := fun _ H' => Q .non H', rt := Q } (start N_law_renamed vs) H := by
  obtain ⟨a, D, m, c, rfl, hD, hv, hm, hl, k⟩ := h
  unfold t_law_renamed
  walk_at "S"
  refine lcR1 m (by omega) (fun i => (m : Int) - (i : Int)) (fun i hi H1 e1 R r => ?_) fun p1 H1 e1 n1 h1 => ?_
  · walk_at "S"
    exact r H1 (Ex.refl H1)
  walk_at "S"
  refine new1 fun p2 H2 e2 n2 h2 => ?_
  walk_at "S"
  refine a_rep h2 (by omega) fun p3 H3 e3 n3 h3 => ?_
  refine a_cat (h1.ex (e2.trans e3)) h3 (by rw [List.length_map, List.length_range, List.length_replicate]; omega) fun p4 H4 e4 n4 h4 => ?_
  have e04 := ((e1.trans e2).trans e3).trans e4
  walk_at "S"
  refine a_lenD (hD.ex' e04) ?_
  refine lcR1 D.length (by omega) (fun i => ((D.length : Nat) : Int) - (i : Int)) (fun i hi H5 e5 R r => ?_) fun p5 H5 e5 n5 h5 => ?_
  · walk_at "S"
    refine a_lenD (hD.ex' (e04.trans e5)) ?_
    walk_at "S"
    exact r H5 (Ex.refl H5)
  refine a_cat (h4.ex e5) h5 (by simp only [List.length_append, List.length_map, List.length_range, List.length_replicate]; omega) fun p6 H6 e6 n6 h6 => ?_
  walk_at "S"
  generalize hss : List.map (fun i : Nat => (m : Int) - (i : Int)) (List.range m) ++ List.replicate m (2 : Int) ++ List.map (fun i : Nat => ((D.length : Nat) : Int) - (i : Int)) (List.range D.length) = ss at h6
  have g1 : ∀ i, i < m → ss[i]? = some ((m : Int) - (i : Int)) := fun i hi => by
    rw [← hss, List.append_assoc, List.getElem?_append_left (by rw [List.length_map, List.length_range]; exact hi), List.getElem?_map, List.getElem?_range hi]; rfl
  have g2 : ∀ i, i < m → ss[m + i]? = some 2 := fun i hi => by
    rw [← hss, List.append_assoc, List.getElem?_append_right (by rw [List.length_map, List.length_range]; omega), List.length_map, List.length_range, show m + i - m = i by omega, List.getElem?_append_left (by rw [List.length_replicate]; exact hi), List.getElem?_replicate, if_pos hi]
  have g3 : ∀ i, i < D.length → ss[2 * m + i]? = some (((D.length : Nat) : Int) - (i : Int)) := fun i hi => by
    rw [← hss, List.getElem?_append_right (by rw [List.length_append, List.length_map, List.length_range, List.length_replicate]; omega), List.length_append, List.length_map, List.length_range, List.length_replicate, show 2 * m + i - (m + m) = i by omega, List.getElem?_map, List.getElem?_range hi]; rfl
  refine ⟨c, p6, ss, rfl, h6, fun s hs => ?_, by rw [← hss]; simp only [List.length_append, List.length_map, List.length_range, List.length_replicate]; omega, fun H7 pp pk e7 _ hpk hdr => ?_⟩
  · rw [← hss] at hs
    rcases List.mem_append.mp hs with hs | hs
    · rcases List.mem_append.mp hs with hs | hs
      · obtain ⟨i, hi, rfl⟩ := List.mem_map.mp hs
        have := List.mem_range.mp hi
        omega
      · rw [List.eq_of_mem_replicate hs]; decide
    · obtain ⟨i, hi, rfl⟩ := List.mem_map.mp hs
      have := List.mem_range.mp hi
      omega
  have e07 := ((e04.trans e5).trans e6).trans e7
  clear h1 h2 h3 h4 h5 h6 hss
  walk_at "S"
  refine lrg (n := m) (by omega) fun lf H8 e8 n8 h8 => ?_
  walk_at "S"
  refine s_dnew fun np H9 e9 n9 h9 => ?_
  have nnp : H7 np = none := ex_back e8 n9
  have nln : lf ≠ np := by rintro rfl; rw [show H8 lf = _ from h8] at n9; cases n9
  walk_at "S"
  refine forR (n := m) (by omega) (fun i σ H' => ∃ y7 y8 P L, σ = [some (.ref a), some (.int (m : Int)), some (.int c), none, some (.ref pp), some (.ref lf), some (.ref np), y7, y8, none, none, none] ∧ Ex H7 H' ∧ IsI H' lf L ∧ P.length = i ∧ (P ++ L).Perm (rng m) ∧
      IsT H' np (fun z => if 0 ≤ z ∧ z < 2 * (i : Int) then some (.int (nm P (pk.drop m) z)) else none) (2 * i)) ⟨_, _, [], rng m, rfl, e8.trans e9, h8.ex e9, rfl, List.Perm.refl _, ?_⟩ ?_ ?_
  · have : (fun z : Int => if 0 ≤ z ∧ z < 2 * ((0 : Nat) : Int) then some (V.int (nm [] (pk.drop m) z)) else none) = fun _ => none := by
      funext z
      rw [if_neg (by omega)]
    rw [this]
    exact t_new h9
  · rintro i σ HA hi ⟨y7, y8, P, L, rfl, eA, hL, hPl, hperm, hN⟩
    have hLl : L.length + i = m := by
      have := hperm.length_eq
      rw [List.length_append, len_rng, hPl] at this
      omega
    walk_at "S"
    refine ⟨tyl hL, ?_⟩
    walk_at "S"
    obtain ⟨v, hv1, hv2⟩ := drawn_get hdr (g1 i hi)
    refine a_ix (hpk.ex eA) hv1 ?_
    obtain ⟨q, hq⟩ : ∃ q, L[v]? = some q := ⟨_, List.getElem?_eq_getElem (by omega)⟩
    refine a_popAt hL hq (by omega) ?_
    have eB : Ex H7 (upd HA lf (.lst ((L.eraseIdx v).map V.int))) := ex_mut eA n8
    obtain ⟨b, hb1, hb2⟩ := drawn_get hdr (g2 i hi)
    have emi : (m : Int) + (i : Int) = ((m + i : Nat) : Int) := by omega
    have hN2 : IsT (upd HA lf (.lst ((L.eraseIdx v).map V.int))) np (fun z => if 0 ≤ z ∧ z < 2 * (i : Int) then some (.int (nm P (pk.drop m) z)) else none) (2 * i) := by
      obtain ⟨kv, z1, z2⟩ := hN.ex
      exact ⟨⟨kv, by rw [upd_ne nln.symm]; exact z1, z2⟩⟩
    walk_at "S"
    rw [emi]
    refine a_ix (hpk.ex eB) hb1 ?_
    walk_at "S"
    refine t_put hN2 (by omega) fun o1 hN3 => ?_
    have eC : Ex H7 (upd (upd HA lf (.lst ((L.eraseIdx v).map V.int))) np o1) := ex_mut eB nnp
    walk_at "S"
    rw [emi]
    refine a_ix (hpk.ex eC) hb1 ?_
    walk_at "S"
    refine t_put hN3 (by omega) fun o2 hN4 => ?_
    refine ⟨_, _, P ++ [q], L.eraseIdx v, rfl, ex_mut eC nnp, ?_, by rw [List.length_append, List.length_singleton, hPl], ?_, ?_⟩
    · show (upd (upd (upd HA lf _) np o1) np o2) lf = _
      rw [upd_ne nln, upd_ne nln]; exact upd_same
    · rw [List.append_assoc]
      exact (List.Perm.append_left _ (erase_perm hq)).trans hperm
    · obtain ⟨kv, z1, z2, z3⟩ := hN4.ex
      refine ⟨⟨kv, z1, by omega, fun z => ?_⟩⟩
      rw [z3]
      have hB : (pk.drop m).getD i 0 = (b : Int) := by rw [List.getD_eq_getElem?_getD, List.getElem?_drop, hb1]; rfl
      have hP : (P ++ [q]).getD i 0 = q := by rw [List.getD_eq_getElem?_getD, List.getElem?_append_right (by omega), hPl, Nat.sub_self]; rfl
      unfold putT
      by_cases c1 : z = 2 * (i : Int) + 1
      · rw [if_pos c1, if_pos (by omega)]
        unfold nm
        rw [if_neg (by omega), show (z / 2).toNat = i by omega, hB, hP]
      · rw [if_neg c1]
        by_cases c2 : z = 2 * (i : Int)
        · rw [if_pos c2, if_pos (by omega)]
          unfold nm
          rw [if_pos (by omega), show (z / 2).toNat = i by omega, hB, hP]
        · rw [if_neg c2]
          show (if 0 ≤ z ∧ z < 2 * (i : Int) then some (V.int (nm P (pk.drop m) z)) else none) = _
          by_cases c3 : 0 ≤ z ∧ z < 2 * (i : Int)
          · rw [if_pos c3, if_pos (by omega), nm_app c3.1 (by omega)]
          · rw [if_neg c3, if_neg (by omega)]
  rintro σ HA ⟨y7, y8, P, L, rfl, eA, hL, hPl, hperm, hN⟩
  have hL0 : L = [] := List.length_eq_zero_iff.mp (by
    have := hperm.length_eq
    rw [List.length_append, len_rng, hPl] at this
    omega)
  subst hL0
  rw [List.append_nil] at hperm
  have hnamed := named (B := pk.drop m) hv hperm fun i hi => by
    obtain ⟨b, hb1, hb2⟩ := drawn_get hdr (g2 i hi)
    rw [List.getD_eq_getElem?_getD, List.getElem?_drop, hb1]
    show (0 : Int) ≤ (b : Int) ∧ (b : Int) < 2
    omega
  have e0A := e07.trans eA
  walk_at "S"
  refine lcDDs (hD.ex' e0A) (by omega) (List.map (nm P (pk.drop m))) (fun r hr p HB hp eB R k1 => ?_) fun l2 HB qs eB nB hqs hqf => ?_
  · have hrl : r.length ≤ 2 * m := by rw [← hv.ln]; exact row_le hr
    walk_at "S"
    refine lcI1 hp (by omega) (nm P (pk.drop m)) (fun z hz HC eC R2 k2 => ?_) fun q HC eC nC hC => k1 q HC eC nC hC
    have hzr := hv.rg z (List.mem_flatten.mpr ⟨r, hr, hz⟩)
    walk_at "S"
    exact t_get ((hN.ex' eB).ex' eC) (if_pos ⟨hzr.1, hzr.2⟩) (k2 HC (Ex.refl HC))
  walk_at "S"
  refine new0 fun fp HC eC nC hC => ?_
  have nfq : fp ∉ qs := fun hm => by obtain ⟨o, ho⟩ := hqs.mem hm; rw [ho] at nC; cases nC
  have nfl : fp ≠ l2 := by rintro rfl; rw [hqs.l] at nC; cases nC
  have e0B := e0A.trans eB
  walk_at "S"
  refine a_lenD (hD.ex' (e0B.trans eC)) ?_
  refine forR (n := D.length) (by omega) (fun i σ H' => ∃ y3 y7 y8 ps F G, σ = [some (.ref a), some (.int (m : Int)), some (.int c), y3, some (.ref pp), some (.ref l2), some (.ref np), y7, y8, some (.ref fp), none, none] ∧ Ex HA H' ∧ IsDs H' l2 ps G ∧ IsD H' fp F ∧ F.length = i ∧ fp ∉ ps ∧ (F ++ G).Perm (D.map (List.map (nm P (pk.drop m)))))
    ⟨_, _, _, qs, [], _, rfl, eB.trans eC, hqs.ex' eC, hC.nilD, rfl, nfq, List.Perm.refl _⟩ ?_ ?_
  · rintro i σ HD hi ⟨y3, y7, y8, ps, F, G, rfl, eD, hG, hF, hFl, hfp, hpm⟩
    have hGl : G.length + i = D.length := by
      have := hpm.length_eq
      rw [List.length_append, List.length_map, hFl] at this
      omega
    walk_at "S"
    refine ⟨tylD hF, ?_⟩
    walk_at "S"
    refine ⟨ds_ty hG, ?_⟩
    obtain ⟨v, hv1, hv2⟩ := drawn_get hdr (g3 i hi)
    have emi : (2 : Int) * (m : Int) + (i : Int) = ((2 * m + i : Nat) : Int) := by omega
    walk_at "S"
    rw [emi]
    refine a_ix (hpk.ex (eA.trans eD)) hv1 ?_
    have hvG : v < G.length := by omega
    walk_at "S"
    refine ds_pop hG hvG (by omega) fun p o hp hG2 => ?_
    have hpm2 := List.mem_of_getElem? hp
    have hrow := hG.row hp
    have hpl2 : p ≠ l2 := hG.ne hpm2
    have hpf : p ≠ fp := fun z => hfp (z ▸ hpm2)
    have hrow2 : IsI (upd HD l2 o) p (G.getD v []) := by show (upd HD l2 o) p = _; rw [upd_ne hpl2]; exact hrow
    have hF2 : IsD (upd HD l2 o) fp F := by
      obtain ⟨us, z1, z2, z3⟩ := hF.ex
      refine ⟨⟨us, by rw [upd_ne nfl]; exact z1, z2, fun j x r hx hr => ?_⟩⟩
      have z4 := z3 j x r hx hr
      show (upd HD l2 o) x = _
      by_cases hGe : G = []
      · rw [hGe] at hvG; exact absurd hvG (Nat.not_lt_zero _)
      · rw [upd_ne (isD_ne hG.toD hGe z4)]; exact z4
    walk_at "S"
    refine a_appD' hF2 hpf (by omega) hrow2 fun o2 hF3 => ?_
    refine ⟨_, _, _, ps.eraseIdx v, _, G.eraseIdx v, rfl, ex_mut (ex_mut eD nB) (ex_back eB nC), ?_, hF3, by rw [List.length_append, List.length_singleton, hFl], fun z => hfp (List.mem_of_mem_eraseIdx z), ?_⟩
    · exact hG2.other nfl fun z => hfp (List.mem_of_mem_eraseIdx z)
    · rw [List.append_assoc]
      refine (List.Perm.append_left _ (erase_perm ?_)).trans hpm
      rw [List.getD_eq_getElem?_getD, List.getElem?_eq_getElem hvG]; rfl
  · rintro σ HD ⟨y3, y7, y8, ps, F, G, rfl, eD, hG, hF, hFl, hfp, hpm⟩
    have hG0 : G = [] := List.length_eq_zero_iff.mp (by
      have := hpm.length_eq
      rw [List.length_append, List.length_map, hFl] at this
      omega)
    subst hG0
    rw [List.append_nil] at hpm
    have hvF : Valid F m := valid_perm hnamed (perm_flat hpm)
    walk_at "S"
    refine ⟨fp, F, rfl, hF, by omega, fun r hr => ?_, fun HE q D' eE nE hE hrows => ?_⟩
    · have := row_le hr
      rw [hvF.ln] at this; omega
    · exact k HE q D' (e0A.trans (eD.trans eE)) (ex_back (e0A.trans eD) nE) hE ⟨m, rows_valid hvF hrows, hm, by rw [hrows.1]; omega⟩

section
variable {P : Program} {w : World} {K : PySem.W.Frag} {mg : Str → Option Value} {base : Heap}
theorem sc_law_renamed : FnScope N_law_renamed ["_law_rows", "_law_ties", "_law_cell_here"] (defScope s_law_renamed) := ⟨rfl, rfl, rfl, by decide +kernel, rfl, by decide +kernel, by decide +kernel⟩
theorem cal_law_renamed (B : Blt mg) (D : Dfn K mg "_law_renamed" s_law_renamed ["_law_rows", "_law_ties", "_law_cell_here"]) (C_law_draws : Cal P w K mg base CX0 1 "_law_draws" ["_law_cell_here", "_law_sizes"] (sp_law_draws K)) (C_law_settled : Cal P w K mg base CX0 1 "_law_settled" ["_law_rows"] (sp_law_settled K)) : Cal P w K mg base CX0 2 "_law_renamed" ["_law_rows", "_law_ties", "_law_cell_here"] (sp_law_renamed K) := by
  refine cal_mk D fun f fd F => F.ok sc_law_renamed (fun vs H Q E h => len_law_renamed h) (fun cdv A outer s H vs Q E hr h => ⟨t_law_renamed K, ?_, pure_law_renamed vs H Q E h⟩)
  have hu := hu_of hr
  exact (pss_cons (ps_set (i := 4) sc_law_renamed.nd rfl (Or.inl rfl) (pe_cal C_law_draws hr (by decide) (by rfl) (pa_cons (pv 2) (pa_cons (pe_op op_cat (pe_op op_cat (pe_lc (own := [("_law_k", 3)]) (g := gName 3) rfl sc_law_renamed.nd (pi_range1 (by rfl) B.range_ (pa_cons (pv 1) pa_nil)) (blkOk_by (own := [("_law_k", 3)]) (N := N_law_renamed) (sc := (defScope s_law_renamed)) (by decide +kernel)) (fun _ _ _ _ _ => pg_name (i := 3) sc_law_renamed.nd rfl (Or.inl rfl)) (fun _ _ _ _ _ => pts_nil) (fun _ _ _ _ _ => (pe_op op_sub (pv 1) (pv 3)))) (pe_op op_rep (pe_lst (pa_cons pe_int pa_nil)) (pv 1))) (pe_lc (own := [("_law_k", 3)]) (g := gName 3) rfl sc_law_renamed.nd (pi_range1 (by rfl) B.range_ (pa_cons (pe_callB call_len_seq (by rfl) B.len_ PySem.boot_len (pa_cons (pv 0) pa_nil)) pa_nil)) (blkOk_by (own := [("_law_k", 3)]) (N := N_law_renamed) (sc := (defScope s_law_renamed)) (by decide +kernel)) (fun _ _ _ _ _ => pg_name (i := 3) sc_law_renamed.nd rfl (Or.inl rfl)) (fun _ _ _ _ _ => pts_nil) (fun _ _ _ _ _ => (pe_op op_sub (pe_callB call_len_seq (by rfl) B.len_ PySem.boot_len (pa_cons (pv 0) pa_nil)) (pv 3))))) pa_nil))))
        (pss_cons (ps_set (i := 5) sc_law_renamed.nd rfl (Or.inl rfl) (pe_listRg rfl (by rfl) B.list_ (prg_1 (by rfl) B.range_ (pv 1))))
        (pss_cons (ps_set (i := 6) sc_law_renamed.nd rfl (Or.inr rfl) pe_dnewK)
        (pss_cons (ps_for PassesOwn.never rfl (pi_range1 (by rfl) B.range_ (pa_cons (pv 1) pa_nil)) (pg_name (i := 7) sc_law_renamed.nd rfl (Or.inl rfl)) (pss_cons (ps_set (i := 8) sc_law_renamed.nd rfl (Or.inl rfl) (pe_bm PySem.F.plainAttrs_list PySem.F.slot_list_pop PySem.F.type_list_pop mt_popAt (pv 5) (pa_cons (pe_ix ix_list (pv 4) (pv 7) (fun _ _ => rfl)) pa_nil)))
          (pss_cons (ps_dput hu (pv 6) (pe_op op_mul pe_int (pv 7)) (pe_op op_add (pe_op op_mul pe_int (pv 8)) (pe_ix ix_list (pv 4) (pe_op op_add (pv 1) (pv 7)) (fun _ _ => rfl))) rfl)
          (pss_one (ps_dput hu (pv 6) (pe_op op_add (pe_op op_mul pe_int (pv 7)) pe_int) (pe_op op_sub (pe_op op_add (pe_op op_mul pe_int (pv 8)) pe_int) (pe_ix ix_list (pv 4) (pe_op op_add (pv 1) (pv 7)) (fun _ _ => rfl))) rfl)))))
        (pss_cons (ps_setLc (i := 5) (own := [("_law_row", 10)]) (g := gName 10) rfl sc_law_renamed.nd rfl rfl (sw_true rfl rfl rfl (by decide +kernel)) (pi_list (pv 0)) (blkOk_by (own := [("_law_row", 10)]) (N := N_law_renamed) (sc := (defScope s_law_renamed)) (by decide +kernel)) (fun _ _ _ _ _ => pg_name (i := 10) sc_law_renamed.nd rfl (Or.inl rfl)) (fun _ _ _ _ _ => pts_nil) (fun _ _ _ _ _ => (pe_lc (own := [("_law_end", 11)]) (g := gName 11) rfl sc_law_renamed.nd (pi_list (pv 10)) (blkOk_by (own := [("_law_end", 11)]) (N := N_law_renamed) (sc := (relS (lcScope (asgVal ((defBody s_law_renamed).getD 4 (.Pass ⟨0, 0, 0, 0⟩)))) (defScope s_law_renamed))) (by decide +kernel)) (fun _ _ _ _ _ => pg_name (i := 11) sc_law_renamed.nd rfl (Or.inl rfl)) (fun _ _ _ _ _ => pts_nil) (fun _ _ _ _ _ => (pe_dget hu (pv 6) (pv 11) (fun _ _ => rfl))))))
        (pss_cons (ps_set (i := 9) sc_law_renamed.nd rfl (Or.inl rfl) (pe_lst pa_nil))
        (pss_cons (ps_for PassesOwn.never rfl (pi_range1 (by rfl) B.range_ (pa_cons (pe_callB call_len_seq (by rfl) B.len_ PySem.boot_len (pa_cons (pv 0) pa_nil)) pa_nil)) (pg_name (i := 3) sc_law_renamed.nd rfl (Or.inl rfl)) (pss_one (ps_expr (pe_bm PySem.F.plainAttrs_list PySem.F.slot_list_append PySem.F.type_list_append mt_append (pv 9) (pa_cons (pe_bm PySem.F.plainAttrs_list PySem.F.slot_list_pop PySem.F.type_list_pop mt_popAt (pv 5) (pa_cons (pe_ix ix_list (pv 4) (pe_op op_add (pe_op op_mul pe_int (pv 1)) (pv 3)) (fun _ _ => rfl)) pa_nil)) pa_nil)))))
        (pss_one (ps_ret (pe_cal C_law_settled hr (by decide) (by rfl) (pa_cons (pv 9) pa_nil)))))))))))
end

abbrev s_law_grown : Stmt := top 35
abbrev N_law_grown : List Str := ["_law_script", "_law_base", "_law_holes", "_law_seats_here", "_law_more", "_law_late", "_law_tree", "_law_picks", "_law_rows", "_law_k", "_law_row", "_law_high"]
-- slots: 0 script, 1 base, 2 holes, 3 seats_here, 4 more, 5 late, 6 tree, 7 picks, 8 rows, 9 k, 10 row, 11 high
def t_law_grown (K : PySem.W.Frag) : TS :=
  (tSeq (tAsg (tCal (sp_law_draws K) (tCons (tCal (sp_law_cell K) (tCons (tVar 0) (tCons (tVar 1) tNil))) (tCons (tLst (tCons (tC (.int 6)) (tCons (tC (.int 5)) (tCons (tC (.int 420)) tNil)))) tNil))) (gUnl K 3 (gCons (gName 3) (gCons (gName 4) (gCons (gName 5) gNil)))))
        (tSeq (tAsg (tCal (sp_law_draws K) (tCons (tCal (sp_law_cell K) (tCons (tVar 0) (tCons (tOp rAdd (tVar 1) (tC (.int 1))) tNil))) (tCons (tOp rRep (tLst (tCons (tC (.int 60)) (tCons (tC (.int 60)) tNil))) (tVar 3)) tNil))) (gName 6))
        (tSeq (tAsg (tOp rAdd (tVar 4) (tOp rMul (tC (.int 2)) (tVar 2))) (gName 4))
        (tSeq (tAsg (tCal (sp_law_draws K) (tCons (tCal (sp_law_cell K) (tCons (tVar 0) (tCons (tOp rAdd (tVar 1) (tC (.int 2))) tNil))) (tCons (tOp rRep (tLst (tCons (tC (.int 5040)) (tCons (tC (.int 5040)) tNil))) (tVar 4)) tNil))) (gName 7))
        (tSeq (tAsg (tLst (tCons (tLst tNil) tNil)) (gName 8))
        (tSeq (tFor (iRng1 (tCons (tVar 3) tNil)) (gName 9) (tSeq (tAsg (tOp (rIxL K) (tVar 8) (tOp rMod (tOp (rIxL K) (tVar 6) (tOp rMul (tC (.int 2)) (tVar 9))) (tCB (bLen K) (tCons (tVar 8) tNil)))) (gName 10))
          (tSeq (tDrop (tBM K "list" mIns (tVar 10) (tCons (tOp rMod (tOp (rIxL K) (tVar 6) (tOp rAdd (tOp rMul (tC (.int 2)) (tVar 9)) (tC (.int 1)))) (tOp rAdd (tCB (bLen K) (tCons (tVar 10) tNil)) (tC (.int 1)))) (tCons (tOp rMul (tC (.int 2)) (tVar 9)) tNil))))
          (tDrop (tBM K "list" rAppend (tVar 8) (tCons (tLst (tCons (tOp rAdd (tOp rMul (tC (.int 2)) (tVar 9)) (tC (.int 1))) tNil)) tNil))))))
        (tSeq (tFor (iRng1 (tCons (tVar 4) tNil)) (gName 9) (tSeq (tAsg (tAndV (tOp rEq (tVar 2) (tC (.int 1))) (tOp rEq (tVar 9) (tOp rAdd (tC (.int 1)) (tOp rMod (tVar 5) (tCB bMax (tCons (tC (.int 1)) (tCons (tOp rSub (tVar 4) (tC (.int 1))) tNil))))))) (gName 11))
          (tDrop (tCal (sp_law_tied K) (tCons (tVar 8) (tCons (tOp rAdd (tVar 3) (tVar 9)) (tCons (tOp (rIxL K) (tVar 7) (tOp rMul (tC (.int 2)) (tVar 9))) (tCons (tOp (rIxL K) (tVar 7) (tOp rAdd (tOp rMul (tC (.int 2)) (tVar 9)) (tC (.int 1)))) (tCons (tVar 11) tNil)))))))))
        (tRet (tCal (sp_law_renamed K) (tCons (tVar 8) (tCons (tOp rAdd (tVar 3) (tVar 4)) (tCons (tCal (sp_law_cell K) (tCons (tVar 0) (tCons (tOp rAdd (tVar 1) (tC (.int 3))) tNil))) tNil))))))))))))
theorem len_law_grown {K : PySem.W.Frag} {vs : List V} {H : Hp} {Q : VK} {E : XK} (h : sp_law_grown K vs H Q E) : vs.length = (["_law_script", "_law_base", "_law_holes"] : List Str).length := by
  obtain ⟨a, ns, h, rfl, _⟩ := h; rfl
theorem pure_law_grown {K : PySem.W.Frag} (vs : List V) (H : Hp) (Q : VK) (E : XK) (h : sp_law_grown K vs H Q E) : t_law_grown K { nx := fun _ H' => Q .non H', rt := Q } (start N_law_grown vs) H := by
  obtain ⟨a, ns, h', rfl, hS, hl, hh0, hh1, k⟩ := h
  obtain ⟨h, rfl⟩ : ∃ h : Nat, h' = (h : Int) := ⟨h'.toNat, by omega⟩
  have hh1 : h ≤ 1 := by omega
  unfold t_law_grown
  walk_at "S"
  refine ⟨a, ns, 1, rfl, hS, hl, by decide, fun c1 => ?_⟩
  walk_at "S"
  refine newL (by show 3 ≤ 1000000; decide) fun p1 H1 e1 n1 h1 => ?_
  walk_at "S"
  refine ⟨c1, p1, [6, 5, 420], rfl, h1, fun s hs => by simp at hs; omega, by show 3 ≤ 100000; decide, fun H2 d1 ds e2 _ hd1 hdr => ?_⟩
  obtain ⟨s, r1, rfl, hs6, hdr⟩ := drawn_cons hdr
  obtain ⟨mo, r2, rfl, hmo, hdr⟩ := drawn_cons hdr
  obtain ⟨la, r3, rfl, hla, hdr⟩ := drawn_cons hdr
  have := drawn_nil hdr
  subst this
  have e02 := e1.trans e2
  refine ⟨_, _, rfl, hd1.sq, rfl, _, _, rfl, _, _, rfl, _, _, rfl, rfl, ?_⟩
  walk_at "S"
  refine ⟨a, ns, 2, rfl, Evl.ex_l e02 hS, hl, by decide, fun c2 => ?_⟩
  walk_at "S"
  refine newL (by show 2 ≤ 1000000; decide) fun p3 H3 e3 n3 h3 => ?_
  walk_at "S"
  refine a_repL (ns := [60, 60]) h3 (by omega) (by show 2 * s ≤ 1000000; omega) fun p4 H4 e4 n4 h4 => ?_
  walk_at "S"
  refine ⟨c2, p4, _, rfl, h4, fun z hz => by rw [rep2_mem hz]; decide, by rw [rep2_len]; omega, fun H5 tp tr e5 _ htr htd => ?_⟩
  have e05 := ((e02.trans e3).trans e4).trans e5
  walk_at "S"
  refine ⟨a, ns, 3, rfl, Evl.ex_l e05 hS, hl, by decide, fun c3 => ?_⟩
  walk_at "S"
  refine newL (by show 2 ≤ 1000000; decide) fun p6 H6 e6 n6 h6 => ?_
  have emo : (mo : Int) + 2 * (h : Int) = ((mo + 2 * h : Nat) : Int) := by omega
  walk_at "S"
  rw [emo]
  refine a_repL (ns := [5040, 5040]) h6 (by omega) (by show 2 * (mo + 2 * h) ≤ 1000000; omega) fun p7 H7 e7 n7 h7 => ?_
  walk_at "S"
  refine ⟨c3, p7, _, rfl, h7, fun z hz => by rw [rep2_mem hz]; decide, by rw [rep2_len]; omega, fun H8 pp pk e8 _ hpk hpd => ?_⟩
  have htr8 := htr.ex ((e6.trans e7).trans e8)
  have e08 := e05.trans ((e6.trans e7).trans e8)
  generalize hmm : mo + 2 * h = mm at hpd
  have hmm6 : mm ≤ 6 := by omega
  walk_at "S"
  refine new0 fun q HA eA nA hA => ?_
  walk_at "S"
  refine newL (by show 1 ≤ 1000000; decide) fun rp HB eB nB hB => ?_
  have nrp : H8 rp = none := ex_back eA nB
  have nqr : q ≠ rp := by rintro rfl; rw [show HA q = _ from hA] at nB; cases nB
  have hD0 : IsDs HB rp [q] [[]] := ⟨hB, rfl, fun i p r hp hr => by
    cases i with
    | zero =>
      have e1 : q = p := Option.some.inj hp
      have e2 : [] = r := Option.some.inj hr
      subst e1 e2
      exact hA.ex eB
    | succ i => simp at hp, by simp⟩
  walk_at "S"
  refine forR (n := s) (by omega) (fun i σ H' => ∃ y9 y10 ps D, σ = [some (.ref a), some (.int 1), some (.int (h : Int)), some (.int (s : Int)), some (.int (mm : Int)), some (.int (la : Int)), some (.ref tp), some (.ref pp), some (.ref rp), y9, y10, none] ∧ Ex H8 H' ∧ IsDs H' rp ps D ∧ (∀ p ∈ ps, H8 p = none) ∧ Valid D i ∧ D.length = i + 1)
    ⟨_, _, [q], [[]], by rw [← hmm]; rfl, eA.trans eB, hD0, fun p hp => by rw [List.mem_singleton.mp hp]; exact nA, valid_rng (List.Perm.refl _), rfl⟩ ?_ ?_
  · rintro i σ HC hi ⟨y9, y10, ps, D, rfl, eC, hD, hps, hv, hDl⟩
    have e2i : (2 : Int) * (i : Int) = ((2 * i : Nat) : Int) := by omega
    have e2i1 : ((2 * i : Nat) : Int) + 1 = ((2 * i + 1 : Nat) : Int) := by omega
    obtain ⟨u, hu1, _⟩ := drawn_get htd (rep2_get s 60 (i := 2 * i) (by omega))
    obtain ⟨w, hw1, _⟩ := drawn_get htd (rep2_get s 60 (i := 2 * i + 1) (by omega))
    walk_at "S"
    rw [e2i]
    refine a_ix (htr8.ex eC) hu1 ?_
    walk_at "S"
    refine ds_len hD ?_
    refine s_I (cmod (show ((D.length : Nat) : Int) ≠ 0 by omega)) ?_
    rw [fmod_nat]
    have hj : u % D.length < D.length := Nat.mod_lt _ (by omega)
    refine ds_ix hD hj fun p hp => ?_
    have hrow := hD.row hp
    have hrl : (D.getD (u % D.length) []).length ≤ 2 * i := by
      have := row_le (D := D) (r := D.getD (u % D.length) []) (by rw [List.getD_eq_getElem?_getD, List.getElem?_eq_getElem hj]; exact List.getElem_mem hj)
      rw [hv.ln] at this; exact this
    walk_at "S"
    refine ⟨tyl hrow, ?_⟩
    walk_at "S"
    rw [e2i, e2i1]
    refine a_ix (htr8.ex eC) hw1 ?_
    walk_at "S"
    refine a_len hrow ?_
    walk_at "S"
    have el1 : (((D.getD (u % D.length) []).length : Nat) : Int) + 1 = (((D.getD (u % D.length) []).length + 1 : Nat) : Int) := by omega
    rw [el1]
    refine s_I (cmod (show (((D.getD (u % D.length) []).length + 1 : Nat) : Int) ≠ 0 by omega)) ?_
    rw [fmod_nat]
    have hx : w % ((D.getD (u % D.length) []).length + 1) < (D.getD (u % D.length) []).length + 1 := Nat.mod_lt _ (by omega)
    walk_at "S"
    refine ds_rins hD hp (by omega) (by omega) fun o hD2 => ?_
    have hpm := List.mem_of_getElem? hp
    have eD : Ex H8 (upd HC p o) := ex_mut eC (hps p hpm)
    walk_at "S"
    refine ⟨ds_ty hD2, ?_⟩
    walk_at "S"
    refine new1 fun q2 HE eE nE hE => ?_
    have hD3 := hD2.ex' eE
    have nq2 : q2 ∉ ps := fun hm => by obtain ⟨o', ho'⟩ := hD2.mem hm; rw [ho'] at nE; cases nE
    have nq2r : q2 ≠ rp := by rintro rfl; rw [hD2.l] at nE; cases nE
    walk_at "S"
    refine ds_app hD3 hE nq2 nq2r (by rw [List.length_set]; omega) fun o2 hD4 => ?_
    refine ⟨_, _, _, _, rfl, ex_mut (eD.trans eE) nrp, hD4, fun p' hp' => ?_, grow hv hj, by rw [List.length_append, List.length_set, hDl]; rfl⟩
    rcases List.mem_append.mp hp' with h | h
    · exact hps p' h
    · rw [List.mem_singleton.mp h]; exact ex_back eD nE
  rintro σ HC ⟨y9, y10, ps, D, rfl, eC, hD, hps, hv, hDl⟩
  walk_at "S"
  refine forR (n := mm) (by omega) (fun i σ H' => ∃ y9 y11 D, σ = [some (.ref a), some (.int 1), some (.int (h : Int)), some (.int (s : Int)), some (.int (mm : Int)), some (.int (la : Int)), some (.ref tp), some (.ref pp), some (.ref rp), y9, y10, y11] ∧ Ex H8 H' ∧ IsDs H' rp ps D ∧ Valid D (s + i) ∧ D.length = s + 1 ∧
      (∀ j, j + 1 = i → ¬ (h = 1 ∧ j = 1 + la % (max 1 (mm - 1))) → ∃ x y, x ∈ D.flatten ∧ y ∈ D.flatten ∧ ¬ Orb D x y)) ⟨_, _, D, rfl, eC, hD, hv, hDl, fun j hj => by omega⟩ ?_ ?_
  · rintro i σ HD hi ⟨y9, y11, D, rfl, eD, hD, hv, hDl, hlow⟩
    have e2i : (2 : Int) * (i : Int) = ((2 * i : Nat) : Int) := by omega
    have e2i1 : ((2 * i : Nat) : Int) + 1 = ((2 * i + 1 : Nat) : Int) := by omega
    have esi : (s : Int) + (i : Int) = ((s + i : Nat) : Int) := by omega
    obtain ⟨u, hu1, hu2⟩ := drawn_get hpd (rep2_get mm 5040 (i := 2 * i) (by omega))
    obtain ⟨w, hw1, hw2⟩ := drawn_get hpd (rep2_get mm 5040 (i := 2 * i + 1) (by omega))
    have rest : ∀ (Z : Ends) (c : Bool), (c = true ↔ (h = 1 ∧ i = 1 + la % (max 1 (mm - 1)))) →
        (∀ H' D', Ex H8 H' → IsDs H' rp ps D' → Valid D' (s + i + 1) → D'.length = s + 1 → (¬ (h = 1 ∧ i = 1 + la % (max 1 (mm - 1))) → ∃ x y, x ∈ D'.flatten ∧ y ∈ D'.flatten ∧ ¬ Orb D' x y) →
          Z.nx [some (.ref a), some (.int 1), some (.int (h : Int)), some (.int (s : Int)), some (.int (mm : Int)), some (.int (la : Int)), some (.ref tp), some (.ref pp), some (.ref rp), some (.int (i : Int)), y10, some (.bl c)] H') →
        tDrop (tCal (sp_law_tied K) (tCons (tVar 8) (tCons (tOp rAdd (tVar 3) (tVar 9)) (tCons (tOp (rIxL K) (tVar 7) (tOp rMul (tC (.int 2)) (tVar 9))) (tCons (tOp (rIxL K) (tVar 7) (tOp rAdd (tOp rMul (tC (.int 2)) (tVar 9)) (tC (.int 1)))) (tCons (tVar 11) tNil)))))) Z
          [some (.ref a), some (.int 1), some (.int (h : Int)), some (.int (s : Int)), some (.int (mm : Int)), some (.int (la : Int)), some (.ref tp), some (.ref pp), some (.ref rp), some (.int (i : Int)), y10, some (.bl c)] HD := by
      intro Z c hc k1
      walk_at "S"
      rw [e2i]
      refine a_ix (hpk.ex eD) hu1 ?_
      walk_at "S"
      rw [e2i, e2i1]
      refine a_ix (hpk.ex eD) hw1 ?_
      walk_at "S"
      rw [esi]
      refine ⟨rp, ps, D, s + i, u, w, c, rfl, hD, hv, by omega, by omega, by omega, by omega, by omega, fun h0 => ?_, fun hct => ?_, fun H' D' ex hD' hv' hl' hlen => ?_⟩
      · have hl1 : D.length = 1 := by omega
        have hf := hv.ln
        rw [h0] at hf
        match D, hl1, hf with
        | [r], _, hf =>
          have : r = [] := List.length_eq_zero_iff.mp (by simpa using hf)
          rw [this]
      · obtain ⟨g1, g2⟩ := hc.mp hct
        refine ⟨by omega, ?_⟩
        refine hlow (i - 1) (by omega) fun ⟨_, g3⟩ => ?_
        omega
      · walk_at "S"
        refine k1 H' D' (fun b o hb => ?_) hD' hv' (by omega) fun hn => hl' ?_
        · refine ex b o (fun hm => ?_) (eD b o hb)
          rcases List.mem_cons.mp hm with h | h
          · rw [h, nrp] at hb; cases hb
          · rw [hps b h] at hb; cases hb
        · cases hcc : c with
          | false => rfl
          | true => exact absurd (hc.mp hcc) hn
    walk_at "S"
    by_cases ch : h = 1
    · have e1 : decide (V.int (h : Int) = V.int 1) = true := decide_eq_true (by rw [ch]; rfl)
      rw [e1, if_pos rfl]
      walk_at "S"
      refine ⟨_, _, rfl, ?_⟩
      have emx : (if (mm : Int) - 1 > 1 then (mm : Int) - 1 else 1) = ((max 1 (mm - 1) : Nat) : Int) := by
        by_cases q : (mm : Int) - 1 > 1
        · rw [if_pos q, Nat.max_eq_right (by omega)]; omega
        · rw [if_neg q, Nat.max_eq_left (by omega)]; rfl
      rw [emx]
      have hpos : 0 < max 1 (mm - 1) := by omega
      refine s_I (cmod (show ((max 1 (mm - 1) : Nat) : Int) ≠ 0 by omega)) ?_
      rw [fmod_nat]
      walk_at "s"
      walk_at "s"
      refine rest _ _ ?_ fun H' D' g1 g2 g3 g4 g5 => ?_
      · rw [decide_eq_true_iff]
        constructor
        · intro z
          have := V.int.inj z
          exact ⟨ch, by omega⟩
        · rintro ⟨_, z⟩
          rw [z]
          congr 1
      · exact ⟨_, _, D', rfl, g1, g2, g3, g4, fun j hj hn => by
          have : j = i := by omega
          subst this
          exact g5 hn⟩
    · have e1 : decide (V.int (h : Int) = V.int 1) = false := decide_eq_false fun z => ch (by have := V.int.inj z; omega)
      rw [e1, if_neg (by decide)]
      refine rest _ _ ?_ fun H' D' g1 g2 g3 g4 g5 => ?_
      · exact ⟨fun z => Bool.noConfusion z, fun z => absurd z.1 ch⟩
      · exact ⟨_, _, D', rfl, g1, g2, g3, g4, fun j hj hn => by
          have : j = i := by omega
          subst this
          exact g5 hn⟩
  · rintro σ HD ⟨y9, y11, D, rfl, eD, hD, hv, hDl, hlow⟩
    have e0D := e08.trans eD
    walk_at "S"
    refine ⟨a, ns, 4, rfl, Evl.ex_l e0D hS, hl, by decide, fun c4 => ?_⟩
    walk_at "S"
    have esm : (s : Int) + (mm : Int) = ((s + mm : Nat) : Int) := by omega
    rw [esm]
    refine ⟨rp, D, s + mm, c4, rfl, hD.toD, hv, by omega, by omega, fun H' p D' e np hD' hg => ?_⟩
    exact k H' p D' (e0D.trans e) (ex_back e0D np) hD' hg

section
variable {P : Program} {w : World} {K : PySem.W.Frag} {mg : Str → Option Value} {base : Heap}
theorem sc_law_grown : FnScope N_law_grown ["_law_script", "_law_base", "_law_holes"] (defScope s_law_grown) := ⟨rfl, rfl, rfl, by decide +kernel, rfl, by decide +kernel, by decide +kernel⟩
theorem cal_law_grown (B : Blt mg) (D : Dfn K mg "_law_grown" s_law_grown ["_law_script", "_law_base", "_law_holes"]) (C_law_draws : Cal P w K mg base CX0 1 "_law_draws" ["_law_cell_here", "_law_sizes"] (sp_law_draws K)) (C_law_cell : Cal P w K mg base CX0 1 "_law_cell" ["_law_script", "_law_k"] (sp_law_cell K)) (C_law_tied : Cal P w K mg base CX0 3 "_law_tied" ["_law_rows", "_law_tie", "_law_one", "_law_two", "_law_high"] (sp_law_tied K)) (C_law_renamed : Cal P w K mg base CX0 2 "_law_renamed" ["_law_rows", "_law_ties", "_law_cell_here"] (sp_law_renamed K)) : Cal P w K mg base CX0 4 "_law_grown" ["_law_script", "_law_base", "_law_holes"] (sp_law_grown K) := by
  refine cal_mk D fun f fd F => F.ok sc_law_grown (fun vs H Q E h => len_law_grown h) (fun cdv A outer s H vs Q E hr h => ⟨t_law_grown K, ?_, pure_law_grown vs H Q E h⟩)
  have hu := hu_of hr
  exact (pss_cons (ps_asg (pe_cal C_law_draws hr (by decide) (by rfl) (pa_cons (pe_cal C_law_cell hr (by decide) (by rfl) (pa_cons (pv 0) (pa_cons (pv 1) pa_nil))) (pa_cons (pe_lst (pa_cons pe_int (pa_cons pe_int (pa_cons pe_int pa_nil)))) pa_nil))) (pg_unl rfl (pgs_cons (pg_name (i := 3) sc_law_grown.nd rfl (Or.inl rfl)) (pgs_cons (pg_name (i := 4) sc_law_grown.nd rfl (Or.inl rfl)) (pgs_cons (pg_name (i := 5) sc_law_grown.nd rfl (Or.inl rfl)) pgs_nil)))))
        (pss_cons (ps_set (i := 6) sc_law_grown.nd rfl (Or.inl rfl) (pe_cal C_law_draws hr (by decide) (by rfl) (pa_cons (pe_cal C_law_cell hr (by decide) (by rfl) (pa_cons (pv 0) (pa_cons (pe_op op_add (pv 1) pe_int) pa_nil))) (pa_cons (pe_op op_rep (pe_lst (pa_cons pe_int (pa_cons pe_int pa_nil))) (pv 3)) pa_nil))))
        (pss_cons (ps_set (i := 4) sc_law_grown.nd rfl (Or.inl rfl) (pe_op op_add (pv 4) (pe_op op_mul pe_int (pv 2))))
        (pss_cons (ps_set (i := 7) sc_law_grown.nd rfl (Or.inl rfl) (pe_cal C_law_draws hr (by decide) (by rfl) (pa_cons (pe_cal C_law_cell hr (by decide) (by rfl) (pa_cons (pv 0) (pa_cons (pe_op op_add (pv 1) pe_int) pa_nil))) (pa_cons (pe_op op_rep (pe_lst (pa_cons pe_int (pa_cons pe_int pa_nil))) (pv 4)) pa_nil))))
        (pss_cons (ps_set (i := 8) sc_law_grown.nd rfl (Or.inl rfl) (pe_lst (pa_cons (pe_lst pa_nil) pa_nil)))
        (pss_cons (ps_for PassesOwn.never rfl (pi_range1 (by rfl) B.range_ (pa_cons (pv 3) pa_nil)) (pg_name (i := 9) sc_law_grown.nd rfl (Or.inl rfl)) (pss_cons (ps_set (i := 10) sc_law_grown.nd rfl (Or.inl rfl) (pe_ix ix_list (pv 8) (pe_op op_modN (pe_ix ix_list (pv 6) (pe_op op_mul pe_int (pv 9)) (fun _ _ => rfl)) (pe_callB call_len_seq (by rfl) B.len_ PySem.boot_len (pa_cons (pv 8) pa_nil))) (fun _ _ => rfl)))
          (pss_cons (ps_expr (pe_bm PySem.F.plainAttrs_list PySem.F.slot_list_insert PySem.F.type_list_insert mt_insert (pv 10) (pa_cons (pe_op op_modN (pe_ix ix_list (pv 6) (pe_op op_add (pe_op op_mul pe_int (pv 9)) pe_int) (fun _ _ => rfl)) (pe_op op_add (pe_callB call_len_seq (by rfl) B.len_ PySem.boot_len (pa_cons (pv 10) pa_nil)) pe_int)) (pa_cons (pe_op op_mul pe_int (pv 9)) pa_nil))))
          (pss_one (ps_expr (pe_bm PySem.F.plainAttrs_list PySem.F.slot_list_append PySem.F.type_list_append mt_append (pv 8) (pa_cons (pe_lst (pa_cons (pe_op op_add (pe_op op_mul pe_int (pv 9)) pe_int) pa_nil)) pa_nil)))))))
        (pss_cons (ps_for PassesOwn.never rfl (pi_range1 (by rfl) B.range_ (pa_cons (pv 4) pa_nil)) (pg_name (i := 9) sc_law_grown.nd rfl (Or.inl rfl)) (pss_cons (ps_set (i := 11) sc_law_grown.nd rfl (Or.inl rfl) (pe_and (pe_cmpR op_eq (pv 2) pe_int (nomark _)) (pe_one (pe_cmpR op_eq (pv 9) (pe_op op_add pe_int (pe_op op_modN (pv 5) (pe_callB (call_max2 rfl) (by rfl) B.max_ (by decide +kernel) (pa_cons pe_int (pa_cons (pe_op op_sub (pv 4) pe_int) pa_nil))))) (nomark _)))))
          (pss_one (ps_expr (pe_cal C_law_tied hr (by decide) (by rfl) (pa_cons (pv 8) (pa_cons (pe_op op_add (pv 3) (pv 9)) (pa_cons (pe_ix ix_list (pv 7) (pe_op op_mul pe_int (pv 9)) (fun _ _ => rfl)) (pa_cons (pe_ix ix_list (pv 7) (pe_op op_add (pe_op op_mul pe_int (pv 9)) pe_int) (fun _ _ => rfl)) (pa_cons (pv 11) pa_nil))))))))))
        (pss_one (ps_ret (pe_cal C_law_renamed hr (by decide) (by rfl) (pa_cons (pv 8) (pa_cons (pe_op op_add (pv 3) (pv 4)) (pa_cons (pe_cal C_law_cell hr (by decide) (by rfl) (pa_cons (pv 0) (pa_cons (pe_op op_add (pv 1) pe_int) pa_nil))) pa_nil)))))))))))))
end

abbrev s_law_kind : Stmt := top 36
abbrev N_law_kind : List Str := ["_law_sort", "_law_rows", "_law_columns", "_law_shift", "_law_found", "_law_i", "_law_j", "_law_here", "_law_left", "_law_below", "_law_slanted", "_law_row"]
-- slots: 0 sort, 1 rows, 2 columns, 3 shift, 4 found, 5 i, 6 j, 7 here, 8 left, 9 below, 10 slanted, 11 row
def t_law_kind (K : PySem.W.Frag) : TS :=
  (tSeq (tAsg (tLst tNil) (gName 4))
        (tSeq (tFor (iRng1 (tCons (tVar 1) tNil)) (gName 5) (tFor (iRng1 (tCons (tVar 2) tNil)) (gName 6) (tSeq (tAsg (tOp rAdd (tOp rMul (tVar 5) (tVar 2)) (tVar 6)) (gName 7))
            (tSeq (tAsg (tOp rAdd (tOp rMul (tVar 5) (tVar 2)) (tOp rMod (tOp rSub (tVar 6) (tC (.int 1))) (tVar 2))) (gName 8))
            (tSeq (tAsg (tOp rSub (tVar 7) (tVar 2)) (gName 9))
            (tSeq (tAsg (tOp rSub (tVar 8) (tVar 2)) (gName 10))
            (tSeq (tIfS (tTest (tOp rEq (tVar 5) (tC (.int 0)))) (tSeq (tAsg (tOp rAdd (tOp rMul (tOp rSub (tVar 1) (tC (.int 1))) (tVar 2)) (tOp rMod (tOp rSub (tVar 6) (tVar 3)) (tVar 2))) (gName 9))
              (tAsg (tOp rAdd (tOp rMul (tOp rSub (tVar 1) (tC (.int 1))) (tVar 2)) (tOp rMod (tOp rSub (tOp rSub (tVar 6) (tC (.int 1))) (tVar 3)) (tVar 2))) (gName 10))) tNext)
            (tIfS (tTest (tOp rEq (tVar 0) (tC (.str "fours")))) (tDrop (tBM K "list" rAppend (tVar 4) (tCons (tLst (tCons (tOp rAdd (tOp rMul (tC (.int 4)) (tVar 7)) (tC (.int 2))) (tCons (tOp rMul (tC (.int 4)) (tVar 7)) (tCons (tOp rAdd (tOp rMul (tC (.int 4)) (tVar 9)) (tC (.int 3))) (tCons (tOp rAdd (tOp rMul (tC (.int 4)) (tVar 8)) (tC (.int 1))) tNil))))) tNil))) (tSeq (tAsg (tLst (tCons (tOp rAdd (tOp rMul (tC (.int 6)) (tVar 7)) (tC (.int 2))) (tCons (tOp rAdd (tOp rMul (tC (.int 6)) (tVar 7)) (tC (.int 4))) (tCons (tOp rMul (tC (.int 6)) (tVar 7)) tNil)))) (gName 11))
              (tDrop (tBM K "list" rAppend (tVar 4) (tCons (tOp rCat (tVar 11) (tLst (tCons (tOp rAdd (tOp rMul (tC (.int 6)) (tVar 9)) (tC (.int 3))) (tCons (tOp rAdd (tOp rMul (tC (.int 6)) (tVar 10)) (tC (.int 5))) (tCons (tOp rAdd (tOp rMul (tC (.int 6)) (tVar 8)) (tC (.int 1))) tNil))))) tNil))))))))))))
        (tRet (tCal (sp_law_settled K) (tCons (tVar 4) tNil)))))
theorem len_law_kind {K : PySem.W.Frag} {vs : List V} {H : Hp} {Q : VK} {E : XK} (h : sp_law_kind K vs H Q E) : vs.length = (["_law_sort", "_law_rows", "_law_columns", "_law_shift"] : List Str).length := by
  obtain ⟨z, r, c, s, rfl, _⟩ := h; rfl
theorem kind_here (i c j : Nat) : (i : Int) * (c : Int) + (j : Int) = ((i * c + j : Nat) : Int) := by rw [Int.natCast_add, Int.natCast_mul]
theorem kind_left {i c j : Nat} (hc : 0 < c) : (i : Int) * (c : Int) + Int.fmod ((j : Int) - 1) (c : Int) = ((Lk c i j : Nat) : Int) := by
  unfold Lk
  rw [Int.natCast_add, Int.natCast_mul, md_is hc, Int.fmod_eq_emod_of_nonneg _ (by omega)]
theorem kind_below {r i c j s : Nat} (hi : i ≠ 0) : ((i * c + j : Nat) : Int) - (c : Int) = ((Bk r c s i j : Nat) : Int) := by
  unfold Bk
  rw [if_neg hi]
  obtain ⟨k, rfl⟩ : ∃ k, i = k + 1 := ⟨i - 1, by omega⟩
  rw [Nat.add_mul, Nat.one_mul, Nat.add_sub_cancel]
  omega
theorem kind_slant {r i c j s : Nat} (hi : i ≠ 0) : ((Lk c i j : Nat) : Int) - (c : Int) = ((Sk r c s i j : Nat) : Int) := by
  unfold Sk Lk
  rw [if_neg hi]
  obtain ⟨k, rfl⟩ : ∃ k, i = k + 1 := ⟨i - 1, by omega⟩
  rw [Nat.add_mul, Nat.one_mul, Nat.add_sub_cancel]
  omega
theorem kind_below0 {r c j s : Nat} (hr : 0 < r) (hc : 0 < c) : ((r : Int) - 1) * (c : Int) + Int.fmod ((j : Int) - (s : Int)) (c : Int) = ((Bk r c s 0 j : Nat) : Int) := by
  unfold Bk
  rw [if_pos rfl, Int.natCast_add, Int.natCast_mul, md_is hc, Int.fmod_eq_emod_of_nonneg _ (by omega)]
  have : ((r - 1 : Nat) : Int) = (r : Int) - 1 := by omega
  rw [this]
theorem kind_slant0 {r c j s : Nat} (hr : 0 < r) (hc : 0 < c) : ((r : Int) - 1) * (c : Int) + Int.fmod ((j : Int) - 1 - (s : Int)) (c : Int) = ((Sk r c s 0 j : Nat) : Int) := by
  unfold Sk
  rw [if_pos rfl, Int.natCast_add, Int.natCast_mul, md_is hc, Int.fmod_eq_emod_of_nonneg _ (by omega)]
  have : ((r - 1 : Nat) : Int) = (r : Int) - 1 := by omega
  rw [this]
def kindRow (z : Str) (r c s p : Nat) : List Int := if z = "fours" then row4 r c s (p / c) (p % c) else row6 r c s (p / c) (p % c)
theorem pure_law_kind {K : PySem.W.Frag} (vs : List V) (H : Hp) (Q : VK) (E : XK) (h : sp_law_kind K vs H Q E) : t_law_kind K { nx := fun _ H' => Q .non H', rt := Q } (start N_law_kind vs) H := by
  obtain ⟨z, r, c, s, rfl, hr, hc, hr5, hc5, hs5, hrc, k⟩ := h
  have hv : Valid ((List.range (r * c)).map (kindRow z r c s)) (if z = "fours" then 2 * (r * c) else 3 * (r * c)) := by
    by_cases hz : z = "fours"
    · have e : kindRow z r c s = fun p => row4 r c s (p / c) (p % c) := by funext p; exact if_pos hz
      rw [e, if_pos hz]
      exact valid4 hc
    · have e : kindRow z r c s = fun p => row6 r c s (p / c) (p % c) := by funext p; exact if_neg hz
      rw [e, if_neg hz]
      exact valid6 hc
  unfold t_law_kind
  walk_at "S"
  refine new0 fun fp H1 e1 n1 h1 => ?_
  walk_at "S"
  refine forR (n := r) (by omega) (fun i σ H' => ∃ y5 y6 y7 y8 y9 y10 y11, σ = [some (.str z), some (.int (r : Int)), some (.int (c : Int)), some (.int (s : Int)), some (.ref fp), y5, y6, y7, y8, y9, y10, y11] ∧ Ex H H' ∧ IsD H' fp ((List.range (i * c)).map (kindRow z r c s)))
    ⟨_, _, _, _, _, _, _, rfl, e1, by rw [Nat.zero_mul]; exact h1.nilD⟩ ?_ ?_
  · rintro i σ H2 hi ⟨y5, y6, y7, y8, y9, y10, y11, rfl, e2, hD⟩
    walk_at "S"
    refine forR (n := c) (by omega) (fun j σ H' => ∃ y6 y7 y8 y9 y10 y11, σ = [some (.str z), some (.int (r : Int)), some (.int (c : Int)), some (.int (s : Int)), some (.ref fp), some (.int (i : Int)), y6, y7, y8, y9, y10, y11] ∧ Ex H H' ∧ IsD H' fp ((List.range (i * c + j)).map (kindRow z r c s)))
      ⟨_, _, _, _, _, _, rfl, e2, hD⟩ ?_ ?_
    · rintro j σ H3 hj ⟨y6, y7, y8, y9, y10, y11, rfl, e3, hD⟩
      have hlt := dec_lt hi hj
      have hdv : (i * c + j) / c = i := by rw [Nat.add_comm, Nat.add_mul_div_right _ _ hc, Nat.div_eq_of_lt hj, Nat.zero_add]
      have hmd : (i * c + j) % c = j := by rw [Nat.add_comm, Nat.add_mul_mod_self_right, Nat.mod_eq_of_lt hj]
      have hnext : (List.range (i * c + (j + 1))).map (kindRow z r c s) = (List.range (i * c + j)).map (kindRow z r c s) ++ [kindRow z r c s (i * c + j)] := by
        rw [← Nat.add_assoc, List.range_succ, List.map_append]; rfl
      have rest : ∀ (Z : Ends) (b sl : Nat) (y11 : Option V), b = Bk r c s i j → sl = Sk r c s i j →
          (∀ y11 H', Ex H H' → IsD H' fp ((List.range (i * c + (j + 1))).map (kindRow z r c s)) → Z.nx [some (.str z), some (.int (r : Int)), some (.int (c : Int)), some (.int (s : Int)), some (.ref fp), some (.int (i : Int)), some (.int (j : Int)), some (.int ((i * c + j : Nat) : Int)), some (.int ((Lk c i j : Nat) : Int)), some (.int (b : Int)), some (.int (sl : Int)), y11] H') →
          (tIfS (tTest (tOp rEq (tVar 0) (tC (.str "fours")))) (tDrop (tBM K "list" rAppend (tVar 4) (tCons (tLst (tCons (tOp rAdd (tOp rMul (tC (.int 4)) (tVar 7)) (tC (.int 2))) (tCons (tOp rMul (tC (.int 4)) (tVar 7)) (tCons (tOp rAdd (tOp rMul (tC (.int 4)) (tVar 9)) (tC (.int 3))) (tCons (tOp rAdd (tOp rMul (tC (.int 4)) (tVar 8)) (tC (.int 1))) tNil))))) tNil))) (tSeq (tAsg (tLst (tCons (tOp rAdd (tOp rMul (tC (.int 6)) (tVar 7)) (tC (.int 2))) (tCons (tOp rAdd (tOp rMul (tC (.int 6)) (tVar 7)) (tC (.int 4))) (tCons (tOp rMul (tC (.int 6)) (tVar 7)) tNil)))) (gName 11))
              (tDrop (tBM K "list" rAppend (tVar 4) (tCons (tOp rCat (tVar 11) (tLst (tCons (tOp rAdd (tOp rMul (tC (.int 6)) (tVar 9)) (tC (.int 3))) (tCons (tOp rAdd (tOp rMul (tC (.int 6)) (tVar 10)) (tC (.int 5))) (tCons (tOp rAdd (tOp rMul (tC (.int 6)) (tVar 8)) (tC (.int 1))) tNil))))) tNil))))) Z
            [some (.str z), some (.int (r : Int)), some (.int (c : Int)), some (.int (s : Int)), some (.ref fp), some (.int (i : Int)), some (.int (j : Int)), some (.int ((i * c + j : Nat) : Int)), some (.int ((Lk c i j : Nat) : Int)), some (.int (b : Int)), some (.int (sl : Int)), y11] H3 := by
        rintro Z b sl y11 rfl rfl k1
        walk_at "S"
        refine iteD (fun hz => ?_) (fun hz => ?_)
        · have hz : z = "fours" := V.str.inj hz
          walk_at "S"
          refine ⟨tylD hD, ?_⟩
          walk_at "S"
          refine newL (by show 4 ≤ 1000000; decide) fun q H4 e4 n4 h4 => ?_
          have hqf : q ≠ fp := by obtain ⟨us, w, _⟩ := hD.ex; rintro rfl; rw [w] at n4; cases n4
          walk_at "S"
          refine a_appD' (r := row4 r c s i j) (hD.ex' e4) hqf (by rw [List.length_map, List.length_range]; omega) h4 fun o hD5 => ?_
          refine k1 _ _ (ex_mut (e3.trans e4) n1) ?_
          rw [hnext]
          have e : kindRow z r c s (i * c + j) = row4 r c s i j := by unfold kindRow; rw [if_pos hz, hdv, hmd]
          rw [e]
          exact hD5
        · have hz : z ≠ "fours" := fun q => hz (congrArg V.str q)
          walk_at "S"
          refine newL (by show 3 ≤ 1000000; decide) fun q H4 e4 n4 h4 => ?_
          walk_at "S"
          refine ⟨tylD (hD.ex' e4), ?_⟩
          walk_at "S"
          refine newL (by show 3 ≤ 1000000; decide) fun q2 H5 e5 n5 h5 => ?_
          walk_at "S"
          refine a_cat (ns := [6 * ((i * c + j : Nat) : Int) + 2, 6 * ((i * c + j : Nat) : Int) + 4, 6 * ((i * c + j : Nat) : Int)]) (ms := [6 * ((Bk r c s i j : Nat) : Int) + 3, 6 * ((Sk r c s i j : Nat) : Int) + 5, 6 * ((Lk c i j : Nat) : Int) + 1]) (e5 _ _ h4) h5 (by show 3 + 3 ≤ 1000000; decide) fun q3 H6 e6 n6 h6 => ?_
          have e36 := (e4.trans e5).trans e6
          have hqf : q3 ≠ fp := by obtain ⟨us, w, _⟩ := (hD.ex' (e4.trans e5)).ex; rintro rfl; rw [w] at n6; cases n6
          walk_at "S"
          refine a_appD' (r := row6 r c s i j) (hD.ex' e36) hqf (by rw [List.length_map, List.length_range]; omega) h6 fun o hD7 => ?_
          refine k1 _ _ (ex_mut (e3.trans e36) n1) ?_
          rw [hnext]
          have e : kindRow z r c s (i * c + j) = row6 r c s i j := by unfold kindRow; rw [if_neg hz, hdv, hmd]
          rw [e]
          exact hD7
      walk_at "S"
      refine s_I (cmulc (show -(2 ^ 64) < (i : Int) ∧ (i : Int) < 2 ^ 64 by omega)) ?_
      walk_at "S"
      rw [kind_here]
      refine s_I (cmulc (show -(2 ^ 64) < (i : Int) ∧ (i : Int) < 2 ^ 64 by omega)) ?_
      walk_at "S"
      refine s_I (cmod (show (c : Int) ≠ 0 by omega)) ?_
      walk_at "S"
      rw [kind_left hc]
      refine iteEq (fun c0 => ?_) (fun c0 => ?_)
      · have hi0 : i = 0 := by omega
        walk_at "S"
        refine s_I (cmulc (show -(2 ^ 64) < (r : Int) - 1 ∧ (r : Int) - 1 < 2 ^ 64 by omega)) ?_
        walk_at "S"
        refine s_I (cmod (show (c : Int) ≠ 0 by omega)) ?_
        walk_at "S"
        refine s_I (cmulc (show -(2 ^ 64) < (r : Int) - 1 ∧ (r : Int) - 1 < 2 ^ 64 by omega)) ?_
        walk_at "S"
        refine s_I (cmod (show (c : Int) ≠ 0 by omega)) ?_
        walk_at "s"
        rw [kind_below0 hr hc, kind_slant0 hr hc]
        refine rest _ _ _ _ (by rw [hi0]) (by rw [hi0]) fun y11 H' e' d' => ?_
        exact ⟨_, _, _, _, _, _, rfl, e', d'⟩
      · have hi0 : i ≠ 0 := by omega
        rw [kind_below (r := r) (s := s) hi0, kind_slant (r := r) (s := s) hi0]
        walk_at "s"
        refine rest _ _ _ _ rfl rfl fun y11 H' e' d' => ?_
        exact ⟨_, _, _, _, _, _, rfl, e', d'⟩
    · rintro σ H3 ⟨y6, y7, y8, y9, y10, y11, rfl, e3, hD⟩
      refine ⟨_, _, _, _, _, _, _, rfl, e3, ?_⟩
      rw [Nat.add_mul, Nat.one_mul]
      exact hD
  · rintro σ H2 ⟨y5, y6, y7, y8, y9, y10, y11, rfl, e2, hD⟩
    walk_at "S"
    refine ⟨fp, _, rfl, hD, by rw [List.length_map, List.length_range]; omega, fun l hl => ?_, fun H3 q D' e3 n3 hD' hrows => ?_⟩
    · have := row_le hl
      rw [hv.ln] at this
      split at this <;> omega
    · refine k H3 q D' (e2.trans e3) (ex_back e2 n3) hD' ⟨by rw [hrows.1, List.length_map, List.length_range], rows_valid hv hrows⟩

section
variable {P : Program} {w : World} {K : PySem.W.Frag} {mg : Str → Option Value} {base : Heap}
theorem sc_law_kind : FnScope N_law_kind ["_law_sort", "_law_rows", "_law_columns", "_law_shift"] (defScope s_law_kind) := ⟨rfl, rfl, rfl, by decide +kernel, rfl, by decide +kernel, by decide +kernel⟩
theorem cal_law_kind (B : Blt mg) (D : Dfn K mg "_law_kind" s_law_kind ["_law_sort", "_law_rows", "_law_columns", "_law_shift"]) (C_law_settled : Cal P w K mg base CX0 1 "_law_settled" ["_law_rows"] (sp_law_settled K)) : Cal P w K mg base CX0 2 "_law_kind" ["_law_sort", "_law_rows", "_law_columns", "_law_shift"] (sp_law_kind K) := by
  refine cal_mk D fun f fd F => F.ok sc_law_kind (fun vs H Q E h => len_law_kind h) (fun cdv A outer s H vs Q E hr h => ⟨t_law_kind K, ?_, pure_law_kind vs H Q E h⟩)
  have hu := hu_of hr
  exact (pss_cons (ps_set (i := 4) sc_law_kind.nd rfl (Or.inl rfl) (pe_lst pa_nil))
        (pss_cons (ps_for PassesOwn.never rfl (pi_range1 (by rfl) B.range_ (pa_cons (pv 1) pa_nil)) (pg_name (i := 5) sc_law_kind.nd rfl (Or.inl rfl)) (pss_one (ps_for PassesOwn.never rfl (pi_range1 (by rfl) B.range_ (pa_cons (pv 2) pa_nil)) (pg_name (i := 6) sc_law_kind.nd rfl (Or.inl rfl)) (pss_cons (ps_set (i := 7) sc_law_kind.nd rfl (Or.inl rfl) (pe_op op_add (pe_op op_mul (pv 5) (pv 2)) (pv 6)))
            (pss_cons (ps_set (i := 8) sc_law_kind.nd rfl (Or.inl rfl) (pe_op op_add (pe_op op_mul (pv 5) (pv 2)) (pe_op op_modN (pe_op op_sub (pv 6) pe_int) (pv 2))))
            (pss_cons (ps_set (i := 9) sc_law_kind.nd rfl (Or.inl rfl) (pe_op op_sub (pv 7) (pv 2)))
            (pss_cons (ps_set (i := 10) sc_law_kind.nd rfl (Or.inl rfl) (pe_op op_sub (pv 8) (pv 2)))
            (pss_cons (ps_if (pt_cmpR op_eq (pv 5) pe_int (nomark _)) (pss_cons (ps_set (i := 9) sc_law_kind.nd rfl (Or.inl rfl) (pe_op op_add (pe_op op_mul (pe_op op_sub (pv 1) pe_int) (pv 2)) (pe_op op_modN (pe_op op_sub (pv 6) (pv 3)) (pv 2))))
              (pss_one (ps_set (i := 10) sc_law_kind.nd rfl (Or.inl rfl) (pe_op op_add (pe_op op_mul (pe_op op_sub (pv 1) pe_int) (pv 2)) (pe_op op_modN (pe_op op_sub (pe_op op_sub (pv 6) pe_int) (pv 3)) (pv 2)))))) pss_nil)
            (pss_one (ps_if (pt_cmpR op_eq (pv 0) pe_str (nomark _)) (pss_one (ps_expr (pe_bm PySem.F.plainAttrs_list PySem.F.slot_list_append PySem.F.type_list_append mt_append (pv 4) (pa_cons (pe_lst (pa_cons (pe_op op_add (pe_op op_mul pe_int (pv 7)) pe_int) (pa_cons (pe_op op_mul pe_int (pv 7)) (pa_cons (pe_op op_add (pe_op op_mul pe_int (pv 9)) pe_int) (pa_cons (pe_op op_add (pe_op op_mul pe_int (pv 8)) pe_int) pa_nil))))) pa_nil)))) (pss_cons (ps_set (i := 11) sc_law_kind.nd rfl (Or.inl rfl) (pe_lst (pa_cons (pe_op op_add (pe_op op_mul pe_int (pv 7)) pe_int) (pa_cons (pe_op op_add (pe_op op_mul pe_int (pv 7)) pe_int) (pa_cons (pe_op op_mul pe_int (pv 7)) pa_nil)))))
              (pss_one (ps_expr (pe_bm PySem.F.plainAttrs_list PySem.F.slot_list_append PySem.F.type_list_append mt_append (pv 4) (pa_cons (pe_op op_cat (pv 11) (pe_lst (pa_cons (pe_op op_add (pe_op op_mul pe_int (pv 9)) pe_int) (pa_cons (pe_op op_add (pe_op op_mul pe_int (pv 10)) pe_int) (pa_cons (pe_op op_add (pe_op op_mul pe_int (pv 8)) pe_int) pa_nil))))) pa_nil)))))))))))))))
        (pss_one (ps_ret (pe_cal C_law_settled hr (by decide) (by rfl) (pa_cons (pv 4) pa_nil))))))
end

abbrev s_law_numbers : Stmt := top 37
abbrev N_law_numbers : List Str := ["_law_cell_here", "_law_most", "_law_one", "_law_two", "_law_three", "_law_four", "_law_rows", "_law_columns"]
-- slots: 0 cell_here, 1 most, 2 one, 3 two, 4 three, 5 four, 6 rows, 7 columns
def t_law_numbers (K : PySem.W.Frag) : TS :=
  (tSeq (tAsg (tCal (sp_law_draws K) (tCons (tVar 0) (tCons (tLst (tCons (tC (.int 7)) (tCons (tC (.int 40)) (tCons (tC (.int 5040)) (tCons (tC (.int 5040)) tNil))))) tNil))) (gUnl K 4 (gCons (gName 2) (gCons (gName 3) (gCons (gName 4) (gCons (gName 5) gNil))))))
        (tSeq (tAsg (tOp rAdd (tC (.int 1)) (tVar 2)) (gName 6))
        (tSeq (tIfS (tTest (tOp rEq (tVar 2) (tC (.int 6)))) (tAsg (tOp rAdd (tC (.int 1)) (tOp rMod (tVar 3) (tVar 1))) (gName 6)) tNext)
        (tSeq (tAsg (tOp rAdd (tC (.int 1)) (tOp rMod (tVar 4) (tCB bMax (tCons (tC (.int 1)) (tCons (tOp rDiv (tVar 1) (tVar 6)) tNil))))) (gName 7))
        (tRet (tTup (tCons (tVar 6) (tCons (tVar 7) (tCons (tOp rMod (tVar 5) (tVar 7)) tNil)))))))))
theorem len_law_numbers {K : PySem.W.Frag} {vs : List V} {H : Hp} {Q : VK} {E : XK} (h : sp_law_numbers K vs H Q E) : vs.length = (["_law_cell_here", "_law_most"] : List Str).length := by
  obtain ⟨c, rfl, _⟩ := h; rfl
theorem pure_law_numbers {K : PySem.W.Frag} (vs : List V) (H : Hp) (Q : VK) (E : XK) (h : sp_law_numbers K vs H Q E) : t_law_numbers K { nx := fun _ H' => Q .non H', rt := Q } (start N_law_numbers vs) H := by
  obtain ⟨c, rfl, k⟩ := h
  unfold t_law_numbers
  walk_at "S"
  refine newL (by show 4 ≤ 1000000; decide) fun p H1 e1 n1 h1 => ?_
  walk_at "S"
  refine ⟨c, p, [7, 40, 5040, 5040], rfl, h1, by decide, by show 4 ≤ 100000; decide, fun H2 q ns e2 n2 h2 hd => ?_⟩
  obtain ⟨d1, r1, rfl, l1, hd⟩ := drawn_cons hd
  obtain ⟨d2, r2, rfl, l2, hd⟩ := drawn_cons hd
  obtain ⟨d3, r3, rfl, l3, hd⟩ := drawn_cons hd
  obtain ⟨d4, r4, rfl, l4, hd⟩ := drawn_cons hd
  have := drawn_nil hd
  subst this
  have e02 := e1.trans e2
  refine ⟨_, _, rfl, h2.sq, rfl, _, _, rfl, _, _, rfl, _, _, rfl, _, _, rfl, rfl, ?_⟩
  walk_at "s"
  walk_at "s"
  walk_at "s"
  walk_at "s"
  walk_at "s"
  walk_at "s"
  walk_at "s"
  have rest : ∀ r : Nat, 0 < r → r ≤ 40 → (tSeq (tAsg (tOp rAdd (tC (.int 1)) (tOp rMod (tVar 4) (tCB bMax (tCons (tC (.int 1)) (tCons (tOp rDiv (tVar 1) (tVar 6)) tNil))))) (gName 7))
        (tRet (tTup (tCons (tVar 6) (tCons (tVar 7) (tCons (tOp rMod (tVar 5) (tVar 7)) tNil)))))) { nx := fun _ H' => Q .non H', rt := Q } [some (.int c), some (.int 40), some (.int (d1 : Int)), some (.int (d2 : Int)), some (.int (d3 : Int)), some (.int (d4 : Int)), some (.int (r : Int)), none] H2 := by
    intro r hr0 hr1
    walk_at "S"
    refine s_I (cdivn ⟨by omega, by omega⟩) ?_
    have hq : Int.fdiv 40 (r : Int) = ((40 / r : Nat) : Int) := by
      rw [Int.fdiv_eq_ediv_of_nonneg _ (by omega)]; rfl
    rw [hq]
    walk_at "S"
    refine ⟨_, _, rfl, ?_⟩
    have hM : (if ((40 / r : Nat) : Int) > 1 then ((40 / r : Nat) : Int) else 1) = ((max 1 (40 / r) : Nat) : Int) := by split <;> omega
    rw [hM]
    refine s_I (cmod (show ((max 1 (40 / r) : Nat) : Int) ≠ 0 by omega)) ?_
    rw [fmod_nat]
    walk_at "S"
    have hc : (1 : Int) + ((d3 % max 1 (40 / r) : Nat) : Int) = ((1 + d3 % max 1 (40 / r) : Nat) : Int) := by omega
    rw [hc]
    have hlt : d3 % max 1 (40 / r) < max 1 (40 / r) := Nat.mod_lt _ (by omega)
    generalize hcc : 1 + d3 % max 1 (40 / r) = cc
    have hc1 : cc ≤ max 1 (40 / r) := by omega
    have hdiv : 40 / r ≤ 40 := Nat.div_le_self _ _
    have hmul : r * cc ≤ 300 := by
      have h1 : r * cc ≤ r * max 1 (40 / r) := Nat.mul_le_mul_left _ hc1
      have h2 : r * (40 / r) ≤ 40 := Nat.mul_div_le _ _
      rcases Nat.le_total 1 (40 / r) with q | q
      · rw [Nat.max_eq_right q] at h1; omega
      · rw [Nat.max_eq_left q] at h1; omega
    refine s_I (cmod (show (cc : Int) ≠ 0 by omega)) ?_
    rw [fmod_nat]
    have hs : d4 % cc < cc := Nat.mod_lt _ (by omega)
    walk_at "S"
    refine newT (by show 3 ≤ 1000000; decide) fun p3 H3 e3 n3 h3 => ?_
    exact k H3 p3 r cc (d4 % cc) (e02.trans e3) h3 hr0 (by omega) (by omega) (by omega) (by omega) hmul
  walk_at "S"
  refine iteEq (fun c6 => ?_) (fun c6 => ?_)
  · iterate 8 walk_at "s"
    rw [show Int.fmod (d2 : Int) 40 = ((d2 % 40 : Nat) : Int) from fmod_nat d2 40, show (1 : Int) + ((d2 % 40 : Nat) : Int) = ((1 + d2 % 40 : Nat) : Int) by omega]
    exact rest (1 + d2 % 40) (by omega) (by omega)
  · rw [show (1 : Int) + (d1 : Int) = ((1 + d1 : Nat) : Int) by omega]
    exact rest (1 + d1) (by omega) (by omega)

section
variable {P : Program} {w : World} {K : PySem.W.Frag} {mg : Str → Option Value} {base : Heap}
theorem sc_law_numbers : FnScope N_law_numbers ["_law_cell_here", "_law_most"] (defScope s_law_numbers) := ⟨rfl, rfl, rfl, by decide +kernel, rfl, by decide +kernel, by decide +kernel⟩
theorem cal_law_numbers (B : Blt mg) (D : Dfn K mg "_law_numbers" s_law_numbers ["_law_cell_here", "_law_most"]) (C_law_draws : Cal P w K mg base CX0 1 "_law_draws" ["_law_cell_here", "_law_sizes"] (sp_law_draws K)) : Cal P w K mg base CX0 2 "_law_numbers" ["_law_cell_here", "_law_most"] (sp_law_numbers K) := by
  refine cal_mk D fun f fd F => F.ok sc_law_numbers (fun vs H Q E h => len_law_numbers h) (fun cdv A outer s H vs Q E hr h => ⟨t_law_numbers K, ?_, pure_law_numbers vs H Q E h⟩)
  have hu := hu_of hr
  exact (pss_cons (ps_asg (pe_cal C_law_draws hr (by decide) (by rfl) (pa_cons (pv 0) (pa_cons (pe_lst (pa_cons pe_int (pa_cons pe_int (pa_cons pe_int (pa_cons pe_int pa_nil))))) pa_nil))) (pg_unl rfl (pgs_cons (pg_name (i := 2) sc_law_numbers.nd rfl (Or.inl rfl)) (pgs_cons (pg_name (i := 3) sc_law_numbers.nd rfl (Or.inl rfl)) (pgs_cons (pg_name (i := 4) sc_law_numbers.nd rfl (Or.inl rfl)) (pgs_cons (pg_name (i := 5) sc_law_numbers.nd rfl (Or.inl rfl)) pgs_nil))))))
        (pss_cons (ps_set (i := 6) sc_law_numbers.nd rfl (Or.inl rfl) (pe_op op_add pe_int (pv 2)))
        (pss_cons (ps_if (pt_cmpR op_eq (pv 2) pe_int (nomark _)) (pss_one (ps_set (i := 6) sc_law_numbers.nd rfl (Or.inl rfl) (pe_op op_add pe_int (pe_op op_modN (pv 3) (pv 1))))) pss_nil)
        (pss_cons (ps_set (i := 7) sc_law_numbers.nd rfl (Or.inl rfl) (pe_op op_add pe_int (pe_op op_modN (pv 4) (pe_callB (call_max2 rfl) (by rfl) B.max_ (by decide +kernel) (pa_cons pe_int (pa_cons (pe_op op_fdivN (pv 1) (pv 6)) pa_nil))))))
        (pss_one (ps_ret (pe_tup (pa_cons (pv 6) (pa_cons (pv 7) (pa_cons (pe_op op_modN (pv 5) (pv 7)) pa_nil))))))))))
end

abbrev s_law_crossed : Stmt := top 38
abbrev N_law_crossed : List Str := ["_law_one", "_law_two", "_law_rows", "_law_k"]
-- slots: 0 one, 1 two, 2 rows, 3 k
def t_law_crossed (K : PySem.W.Frag) : TS :=
  (tSeq (tAsg (tLst (tCons (tLst (tCons (tC (.int 0)) (tCons (tOp rMul (tC (.int 2)) (tVar 0)) (tCons (tOp rSub (tOp rMul (tC (.int 2)) (tVar 0)) (tC (.int 1))) (tCons (tOp rSub (tOp rMul (tC (.int 2)) (tOp rAdd (tVar 0) (tVar 1))) (tC (.int 1))) tNil))))) tNil)) (gName 2))
        (tSeq (tAsg (tOp rCat (tVar 2) (tLc (iRng2 (tCons (tC (.int 1)) (tCons (tVar 0) tNil))) (gName 3) tYes (tLst (tCons (tOp rSub (tOp rMul (tC (.int 2)) (tVar 3)) (tC (.int 1))) (tCons (tOp rMul (tC (.int 2)) (tVar 3)) tNil))) [3])) (gName 2))
        (tRet (tOp rCat (tVar 2) (tLc (iRng2 (tCons (tC (.int 1)) (tCons (tVar 1) tNil))) (gName 3) tYes (tLst (tCons (tOp rSub (tOp rAdd (tOp rMul (tC (.int 2)) (tVar 0)) (tOp rMul (tC (.int 2)) (tVar 3))) (tC (.int 1))) (tCons (tOp rAdd (tOp rMul (tC (.int 2)) (tVar 0)) (tOp rMul (tC (.int 2)) (tVar 3))) tNil))) [3])))))
theorem len_law_crossed {K : PySem.W.Frag} {vs : List V} {H : Hp} {Q : VK} {E : XK} (h : sp_law_crossed K vs H Q E) : vs.length = (["_law_one", "_law_two"] : List Str).length := by
  obtain ⟨k, l, rfl, _⟩ := h; rfl
theorem flat_pairs (a : Int) : ∀ n : Nat, ((List.range n).map fun i : Nat => [a + 2 * (i : Int), a + 2 * (i : Int) + 1]).flatten = (List.range (2 * n)).map fun i : Nat => a + (i : Int) := by
  intro n
  induction n with
  | zero => rfl
  | succ n ih =>
    rw [List.range_succ, List.map_append, List.flatten_append, ih, show 2 * (n + 1) = 2 * n + 1 + 1 by omega, List.range_succ, List.range_succ, List.map_append, List.map_append, List.append_assoc]
    congr 1
    show [a + 2 * (n : Int), a + 2 * (n : Int) + 1] = [a + ((2 * n : Nat) : Int), a + ((2 * n + 1 : Nat) : Int)]
    rw [show ((2 * n : Nat) : Int) = 2 * (n : Int) by omega, show ((2 * n + 1 : Nat) : Int) = 2 * (n : Int) + 1 by omega, Int.add_assoc]
def crossedD (k l : Nat) : Dr := [[0, 2 * (k : Int), 2 * (k : Int) - 1, 2 * ((k : Int) + (l : Int)) - 1]] ++ ((List.range (k - 1)).map fun i : Nat => [1 + 2 * (i : Int), 1 + 2 * (i : Int) + 1]) ++
  ((List.range (l - 1)).map fun i : Nat => [2 * (k : Int) + 1 + 2 * (i : Int), 2 * (k : Int) + 1 + 2 * (i : Int) + 1])
theorem ramp_nodup (a : Int) (n : Nat) : ((List.range n).map fun i : Nat => a + (i : Int)).Nodup := by
  rw [List.nodup_iff_pairwise_ne, List.pairwise_map]
  exact (List.nodup_iff_pairwise_ne.mp List.nodup_range).imp fun {x y} q e => q (by omega)
theorem ramp_mem {a e : Int} {n : Nat} (h : e ∈ (List.range n).map fun i : Nat => a + (i : Int)) : a ≤ e ∧ e < a + n := by
  obtain ⟨i, hi, rfl⟩ := List.mem_map.mp h
  have := List.mem_range.mp hi
  omega
theorem crossed_flat (k l : Nat) : (crossedD k l).flatten = [0, 2 * (k : Int), 2 * (k : Int) - 1, 2 * ((k : Int) + (l : Int)) - 1] ++ ((List.range (2 * (k - 1))).map fun i : Nat => 1 + (i : Int)) ++ ((List.range (2 * (l - 1))).map fun i : Nat => 2 * (k : Int) + 1 + (i : Int)) := by
  unfold crossedD
  rw [List.flatten_append, List.flatten_append, flat_pairs, flat_pairs]
  rfl
theorem crossed_valid {k l : Nat} (hk : 0 < k) (hl : 0 < l) : Valid (crossedD k l) (k + l) := by
  refine ⟨?_, fun e he => ?_, ?_⟩
  · rw [crossed_flat]
    refine List.nodup_append.mpr ⟨List.nodup_append.mpr ⟨?_, ramp_nodup _ _, fun x hx y hy => ?_⟩, ramp_nodup _ _, fun x hx y hy => ?_⟩
    · simp only [List.nodup_cons, List.mem_cons, List.not_mem_nil, not_or, or_false]
      refine ⟨⟨by omega, by omega, by omega⟩, ⟨by omega, by omega⟩, by omega, (fun h => h), List.nodup_nil⟩
    · have hy := ramp_mem hy
      simp only [List.mem_cons, List.not_mem_nil, or_false] at hx
      omega
    · have hy := ramp_mem hy
      rcases List.mem_append.mp hx with hx | hx
      · simp only [List.mem_cons, List.not_mem_nil, or_false] at hx
        omega
      · have hx := ramp_mem hx
        omega
  · rw [crossed_flat] at he
    rcases List.mem_append.mp he with he | he
    · rcases List.mem_append.mp he with hx | hx
      · simp only [List.mem_cons, List.not_mem_nil, or_false] at hx
        omega
      · have hx := ramp_mem hx
        omega
    · have hx := ramp_mem he
      omega
  · rw [crossed_flat, List.length_append, List.length_append, List.length_map, List.length_map, List.length_range, List.length_range]
    show 4 + _ + _ = _
    omega
theorem pure_law_crossed {K : PySem.W.Frag} (vs : List V) (H : Hp) (Q : VK) (E : XK) (h : sp_law_crossed K vs H Q E) : t_law_crossed K { nx := fun _ H' => Q .non H', rt := Q } (start N_law_crossed vs) H := by
  obtain ⟨k, l, rfl, hk, hl, hk6, hl6, kk⟩ := h
  unfold t_law_crossed
  walk_at "S"
  refine newL (by show 4 ≤ 1000000; decide) fun p1 H1 e1 n1 h1 => ?_
  walk_at "S"
  refine newL (by show 1 ≤ 1000000; decide) fun p2 H2 e2 n2 h2 => ?_
  have d2 : IsD H2 p2 [[0, 2 * (k : Int), 2 * (k : Int) - 1, 2 * ((k : Int) + (l : Int)) - 1]] := by
    refine ⟨⟨[p1], h2, rfl, fun i p r hp hr => ?_⟩⟩
    have hi : i = 0 := by have := (List.getElem?_eq_some_iff.mp hp).1; simp at this; omega
    subst hi
    cases hp
    cases hr
    exact e2 _ _ h1
  walk_at "S"
  refine lcDR2 (lo := 1) (n := k) (by omega) (by omega) (fun i : Nat => [1 + 2 * (i : Int), 1 + 2 * (i : Int) + 1]) (fun i hi H3 e3 R r => ?_) fun p3 H3 e3 n3 h3 => ?_
  · walk_at "S"
    refine newL (by show 2 ≤ 1000000; decide) fun q H4 e4 n4 h4 => r q H4 e4 n4 ?_
    rw [show 2 * ((1 + i : Nat) : Int) - 1 = 1 + 2 * (i : Int) by omega, show 2 * ((1 + i : Nat) : Int) = 1 + 2 * (i : Int) + 1 by omega] at h4
    exact h4
  refine a_catD (d2.ex' e3) h3 (by rw [List.length_map, List.length_range]; show 1 + _ ≤ _; omega) fun p4 H4 e4 n4 d4 => ?_
  walk_at "S"
  refine lcDR2 (lo := 1) (n := l) (by omega) (by omega) (fun i : Nat => [2 * (k : Int) + 1 + 2 * (i : Int), 2 * (k : Int) + 1 + 2 * (i : Int) + 1]) (fun i hi H5 e5 R r => ?_) fun p5 H5 e5 n5 h5 => ?_
  · walk_at "S"
    refine newL (by show 2 ≤ 1000000; decide) fun q H6 e6 n6 h6 => r q H6 e6 n6 ?_
    rw [show 2 * (k : Int) + 2 * ((1 + i : Nat) : Int) - 1 = 2 * (k : Int) + 1 + 2 * (i : Int) by omega, show 2 * (k : Int) + 2 * ((1 + i : Nat) : Int) = 2 * (k : Int) + 1 + 2 * (i : Int) + 1 by omega] at h6
    exact h6
  refine a_catD (d4.ex' e5) h5 (by rw [List.length_append, List.length_map, List.length_range, List.length_map, List.length_range]; show 1 + _ + _ ≤ _; omega) fun p6 H6 e6 n6 d6 => ?_
  have e05 := (((e1.trans e2).trans e3).trans e4).trans e5
  refine kk H6 p6 _ (e05.trans e6) (ex_back e05 n6) d6 ⟨crossed_valid hk hl, ?_⟩
  rw [List.length_append, List.length_append, List.length_map, List.length_range, List.length_map, List.length_range]
  show 1 + _ + _ ≤ _
  omega

section
variable {P : Program} {w : World} {K : PySem.W.Frag} {mg : Str → Option Value} {base : Heap}
theorem sc_law_crossed : FnScope N_law_crossed ["_law_one", "_law_two"] (defScope s_law_crossed) := ⟨rfl, rfl, rfl, by decide +kernel, rfl, by decide +kernel, by decide +kernel⟩
theorem cal_law_crossed (B : Blt mg) (D : Dfn K mg "_law_crossed" s_law_crossed ["_law_one", "_law_two"])  : Cal P w K mg base CX0 1 "_law_crossed" ["_law_one", "_law_two"] (sp_law_crossed K) := by
  refine cal_mk D fun f fd F => F.ok sc_law_crossed (fun vs H Q E h => len_law_crossed h) (fun cdv A outer s H vs Q E hr h => ⟨t_law_crossed K, ?_, pure_law_crossed vs H Q E h⟩)
  have hu := hu_of hr
  exact (pss_cons (ps_set (i := 2) sc_law_crossed.nd rfl (Or.inl rfl) (pe_lst (pa_cons (pe_lst (pa_cons pe_int (pa_cons (pe_op op_mul pe_int (pv 0)) (pa_cons (pe_op op_sub (pe_op op_mul pe_int (pv 0)) pe_int) (pa_cons (pe_op op_sub (pe_op op_mul pe_int (pe_op op_add (pv 0) (pv 1))) pe_int) pa_nil))))) pa_nil)))
        (pss_cons (ps_set (i := 2) sc_law_crossed.nd rfl (Or.inl rfl) (pe_op op_cat (pv 2) (pe_lc (own := [("_law_k", 3)]) (g := gName 3) rfl sc_law_crossed.nd (pi_range2 (by rfl) B.range_ (pa_cons pe_int (pa_cons (pv 0) pa_nil))) (blkOk_by (own := [("_law_k", 3)]) (N := N_law_crossed) (sc := (defScope s_law_crossed)) (by decide +kernel)) (fun _ _ _ _ _ => pg_name (i := 3) sc_law_crossed.nd rfl (Or.inl rfl)) (fun _ _ _ _ _ => pts_nil) (fun _ _ _ _ _ => (pe_lst (pa_cons (pe_op op_sub (pe_op op_mul pe_int (pv 3)) pe_int) (pa_cons (pe_op op_mul pe_int (pv 3)) pa_nil)))))))
        (pss_one (ps_ret (pe_op op_cat (pv 2) (pe_lc (own := [("_law_k", 3)]) (g := gName 3) rfl sc_law_crossed.nd (pi_range2 (by rfl) B.range_ (pa_cons pe_int (pa_cons (pv 1) pa_nil))) (blkOk_by (own := [("_law_k", 3)]) (N := N_law_crossed) (sc := (defScope s_law_crossed)) (by decide +kernel)) (fun _ _ _ _ _ => pg_name (i := 3) sc_law_crossed.nd rfl (Or.inl rfl)) (fun _ _ _ _ _ => pts_nil) (fun _ _ _ _ _ => (pe_lst (pa_cons (pe_op op_sub (pe_op op_add (pe_op op_mul pe_int (pv 0)) (pe_op op_mul pe_int (pv 3))) pe_int) (pa_cons (pe_op op_add (pe_op op_mul pe_int (pv 0)) (pe_op op_mul pe_int (pv 3))) pa_nil))))))))))
end

abbrev s_law_some : Stmt := top 39
abbrev N_law_some : List Str := ["_law_script", "_law_choice", "_law_numbers_here", "_law_drawing_here"]
-- slots: 0 script, 1 choice, 2 numbers_here, 3 drawing_here
def t_law_some (K : PySem.W.Frag) : TS :=
  (tSeq (tIfS (tTest (tOp rLt (tVar 1) (tC (.int 2)))) (tRet (tCal (sp_law_drawing K) (tCons (tVar 0) (tCons (tC (.int 1)) (tCons (tC (.int 8)) tNil))))) tNext)
        (tSeq (tIfS (tTest (tOp rLt (tVar 1) (tC (.int 6)))) (tRet (tCal (sp_law_grown K) (tCons (tVar 0) (tCons (tC (.int 1)) (tCons (tOp rSub (tOp rDiv (tVar 1) (tC (.int 2))) (tC (.int 1))) tNil))))) tNext)
        (tSeq (tAsg (tCal (sp_law_numbers K) (tCons (tCal (sp_law_cell K) (tCons (tVar 0) (tCons (tC (.int 1)) tNil))) (tCons (tC (.int 40)) tNil))) (gName 2))
        (tSeq (tAsg (tCal (sp_law_kind K) (tCons (tOp (rIxL K) (tLst (tCons (tC (.str "fours")) (tCons (tC (.str "threes")) tNil))) (tOp rSub (tVar 1) (tC (.int 6)))) (tCons (tOp (rIxT K) (tVar 2) (tC (.int 0))) (tCons (tOp (rIxT K) (tVar 2) (tC (.int 1))) (tCons (tOp (rIxT K) (tVar 2) (tC (.int 2))) tNil))))) (gName 3))
        (tRet (tCal (sp_law_renamed K) (tCons (tVar 3) (tCons (tOp rMul (tOp rSub (tVar 1) (tC (.int 4))) (tCB (bLen K) (tCons (tVar 3) tNil))) (tCons (tCal (sp_law_cell K) (tCons (tVar 0) (tCons (tC (.int 2)) tNil))) tNil)))))))))
theorem len_law_some {K : PySem.W.Frag} {vs : List V} {H : Hp} {Q : VK} {E : XK} (h : sp_law_some K vs H Q E) : vs.length = (["_law_script", "_law_choice"] : List Str).length := by
  obtain ⟨a, ns, c, rfl, _⟩ := h; rfl
theorem pure_law_some {K : PySem.W.Frag} (vs : List V) (H : Hp) (Q : VK) (E : XK) (h : sp_law_some K vs H Q E) : t_law_some K { nx := fun _ H' => Q .non H', rt := Q } (start N_law_some vs) H := by
  obtain ⟨a, ns, c, rfl, hS, hl, h0, h8, k⟩ := h
  unfold t_law_some
  walk_at "S"
  refine iteD (fun c2 => ?_) (fun c2 => ?_)
  · walk_at "S"
    exact ⟨a, ns, rfl, hS, hl, k⟩
  walk_at "S"
  refine iteD (fun c6 => ?_) (fun c6 => ?_)
  · walk_at "S"
    rw [fdiv2]
    exact ⟨a, ns, _, rfl, hS, hl, by omega, by omega, k⟩
  walk_at "S"
  refine ⟨a, ns, 1, rfl, hS, hl, by decide, fun c1 => ?_⟩
  walk_at "S"
  refine ⟨c1, rfl, fun H1 p r cc s e1 h1 r0 c0 r5 c5 s5 hrc => ?_⟩
  walk_at "S"
  refine newL (by show 2 ≤ 1000000; decide) fun q H2 e2 n2 h2 => ?_
  walk_at "S"
  have hz : ∃ z : Str, atI [V.str "fours", V.str "threes"] (c - 6) = some (.str z) := by
    rcases (show c = 6 ∨ c = 7 by omega) with rfl | rfl
    · exact ⟨_, rfl⟩
    · exact ⟨_, rfl⟩
  obtain ⟨z, hz⟩ := hz
  refine ⟨q, _, _, _, rfl, rfl, sq h2, hz, ?_⟩
  walk_at "S"
  refine ⟨p, _, 0, _, rfl, rfl, .inl (.inl (e2 _ _ h1)), rfl, ?_⟩
  walk_at "S"
  refine ⟨p, _, 1, _, rfl, rfl, .inl (.inl (e2 _ _ h1)), rfl, ?_⟩
  walk_at "S"
  refine ⟨p, _, 2, _, rfl, rfl, .inl (.inl (e2 _ _ h1)), rfl, ?_⟩
  walk_at "S"
  refine ⟨z, r, cc, s, rfl, r0, c0, r5, c5, s5, hrc, fun H3 d D e3 n3 hD ⟨hln, hv⟩ => ?_⟩
  walk_at "S"
  refine a_lenD hD ?_
  walk_at "S"
  refine s_I (cmulc (by omega)) ?_
  walk_at "S"
  refine ⟨a, ns, 2, rfl, Evl.ex_l ((e1.trans e2).trans e3) hS, hl, by decide, fun c3 => ?_⟩
  walk_at "S"
  have hm : (c - 4) * ((D.length : Nat) : Int) = (((if z = "fours" then 2 * (r * cc) else 3 * (r * cc)) : Nat) : Int) := by
    rw [hln]
    rcases (show c = 6 ∨ c = 7 by omega) with rfl | rfl
    · have : z = "fours" := by injection (Option.some.inj hz) with e; exact e.symm
      rw [if_pos this]; omega
    · have : z = "threes" := by injection (Option.some.inj hz) with e; exact e.symm
      rw [this, if_neg (by decide)]; omega
  rw [hm]
  refine ⟨d, D, _, c3, rfl, hD, hv, by split <;> omega, by omega, fun H4 p4 D4 e4 n4 h4 g4 => ?_⟩
  exact k H4 p4 D4 (((e1.trans e2).trans e3).trans e4) (ex_back ((e1.trans e2).trans e3) n4) h4 g4

section
variable {P : Program} {w : World} {K : PySem.W.Frag} {mg : Str → Option Value} {base : Heap}
theorem sc_law_some : FnScope N_law_some ["_law_script", "_law_choice"] (defScope s_law_some) := ⟨rfl, rfl, rfl, by decide +kernel, rfl, by decide +kernel, by decide +kernel⟩
theorem cal_law_some (B : Blt mg) (D : Dfn K mg "_law_some" s_law_some ["_law_script", "_law_choice"]) (C_law_drawing : Cal P w K mg base CX0 2 "_law_drawing" ["_law_script", "_law_base", "_law_most"] (sp_law_drawing K)) (C_law_grown : Cal P w K mg base CX0 4 "_law_grown" ["_law_script", "_law_base", "_law_holes"] (sp_law_grown K)) (C_law_numbers : Cal P w K mg base CX0 2 "_law_numbers" ["_law_cell_here", "_law_most"] (sp_law_numbers K)) (C_law_cell : Cal P w K mg base CX0 1 "_law_cell" ["_law_script", "_law_k"] (sp_law_cell K)) (C_law_kind : Cal P w K mg base CX0 2 "_law_kind" ["_law_sort", "_law_rows", "_law_columns", "_law_shift"] (sp_law_kind K)) (C_law_renamed : Cal P w K mg base CX0 2 "_law_renamed" ["_law_rows", "_law_ties", "_law_cell_here"] (sp_law_renamed K)) : Cal P w K mg base CX0 5 "_law_some" ["_law_script", "_law_choice"] (sp_law_some K) := by
  refine cal_mk D fun f fd F => F.ok sc_law_some (fun vs H Q E h => len_law_some h) (fun cdv A outer s H vs Q E hr h => ⟨t_law_some K, ?_, pure_law_some vs H Q E h⟩)
  have hu := hu_of hr
  exact (pss_cons (ps_if (pt_cmpR op_lt (pv 1) pe_int (nomark _)) (pss_one (ps_ret (pe_cal C_law_drawing hr (by decide) (by rfl) (pa_cons (pv 0) (pa_cons pe_int (pa_cons pe_int pa_nil)))))) pss_nil)
        (pss_cons (ps_if (pt_cmpR op_lt (pv 1) pe_int (nomark _)) (pss_one (ps_ret (pe_cal C_law_grown hr (by decide) (by rfl) (pa_cons (pv 0) (pa_cons pe_int (pa_cons (pe_op op_sub (pe_op op_fdivN (pv 1) pe_int) pe_int) pa_nil)))))) pss_nil)
        (pss_cons (ps_set (i := 2) sc_law_some.nd rfl (Or.inl rfl) (pe_cal C_law_numbers hr (by decide) (by rfl) (pa_cons (pe_cal C_law_cell hr (by decide) (by rfl) (pa_cons (pv 0) (pa_cons pe_int pa_nil))) (pa_cons pe_int pa_nil))))
        (pss_cons (ps_set (i := 3) sc_law_some.nd rfl (Or.inl rfl) (pe_cal C_law_kind hr (by decide) (by rfl) (pa_cons (pe_ix ix_list (pe_lst (pa_cons pe_str (pa_cons pe_str pa_nil))) (pe_op op_sub (pv 1) pe_int) (fun _ _ => rfl)) (pa_cons (pe_ix ix_tup (pv 2) pe_int (fun _ _ => rfl)) (pa_cons (pe_ix ix_tup (pv 2) pe_int (fun _ _ => rfl)) (pa_cons (pe_ix ix_tup (pv 2) pe_int (fun _ _ => rfl)) pa_nil))))))
        (pss_one (ps_ret (pe_cal C_law_renamed hr (by decide) (by rfl) (pa_cons (pv 3) (pa_cons (pe_op op_mul (pe_op op_sub (pv 1) pe_int) (pe_callB call_len_seq (by rfl) B.len_ PySem.boot_len (pa_cons (pv 3) pa_nil))) (pa_cons (pe_cal C_law_cell hr (by decide) (by rfl) (pa_cons (pv 0) (pa_cons pe_int pa_nil))) pa_nil))))))))))
end

abbrev s_law_core : Stmt := top 40
abbrev N_law_core : List Str := ["_law_drawing_here", "_law_stay", "_law_row", "_law_end", "_law_again", "_law_kept"]
-- slots: 0 drawing_here, 1 stay, 2 row, 3 end, 4 again, 5 kept
def t_law_core (K : PySem.W.Frag) : TS :=
  (tSeq (tAsg tDNewK (gName 1))
        (tSeq (tFor (iList K (tVar 0)) (gName 2) (tFor (iList K (tVar 2)) (gName 3) (sDPut (tVar 1) (tVar 3) (tC (.bl true)))))
        (tSeq (tAsg (tC (.bl true)) (gName 4))
        (tSeq (tWhile (tB (tVar 4)) (tSeq (tAsg (tC (.bl false)) (gName 4))
          (tFor (iList K (tVar 0)) (gName 2) (tSeq (tAsg (tLc (iList K (tVar 2)) (gName 3) (tB (tDGet (tVar 1) (tVar 3))) (tVar 3) [3]) (gName 5))
            (tIfS (tTest (tOp rEq (tCB (bLen K) (tCons (tVar 5) tNil)) (tC (.int 1)))) (tSeq (sDPut (tVar 1) (tOp (rIxL K) (tVar 5) (tC (.int 0))) (tC (.bl false)))
              (tSeq (sDPut (tVar 1) (tCal (sp_law_mate K) (tCons (tOp (rIxL K) (tVar 5) (tC (.int 0))) tNil)) (tC (.bl false)))
              (tAsg (tC (.bl true)) (gName 4)))) tNext)))))
        (tRet (tVar 1))))))
theorem len_law_core {K : PySem.W.Frag} {vs : List V} {H : Hp} {Q : VK} {E : XK} (h : sp_law_core K vs H Q E) : vs.length = (["_law_drawing_here"] : List Str).length := by
  obtain ⟨a, D, m, rfl, _⟩ := h; rfl
theorem IsK.cg {H : Hp} {a : Addr} {l : List Int} {F G : Int → V} (h : IsK H a l F) (e : ∀ z, F z = G z) : IsK H a l G := by
  have : F = G := funext e
  rw [← this]; exact h
def offG (g : Int → Bool) (x : Int) : Int → Bool := fun w => if w = mt x then false else if w = x then false else g w
theorem off_mt {g : Int → Bool} {x : Int} (h : ∀ e, g (mt e) = g e) : ∀ e, offG g x (mt e) = offG g x e := by
  intro e
  unfold offG
  by_cases h1 : e = x
  · subst h1; rw [if_pos rfl, if_neg (fun q => mt_ne _ q.symm), if_pos rfl]
  · by_cases h2 : e = mt x
    · subst h2; rw [mt_mt, if_neg (fun q => mt_ne _ q.symm), if_pos rfl, if_pos rfl]
    · rw [if_neg (fun q => h1 (by have := congrArg mt q; rw [mt_mt, mt_mt] at this; exact this)), if_neg (fun q => h2 (by have := congrArg mt q; rw [mt_mt] at this; exact this)), if_neg h2, if_neg h1, h e]
theorem off_lt {g : Int → Bool} {x : Int} (hx : g x = true) : ∀ {l : List Int}, x ∈ l → (l.filter (offG g x)).length < (l.filter g).length := by
  have hoff : ∀ w, offG g x w = true → g w = true := fun w h => by
    unfold offG at h
    split at h
    · cases h
    · split at h
      · cases h
      · exact h
  have hle : ∀ l : List Int, (l.filter (offG g x)).length ≤ (l.filter g).length := fun l => by
    rw [← List.countP_eq_length_filter, ← List.countP_eq_length_filter]
    exact List.countP_mono_left fun w _ h => hoff w h
  intro l hl
  induction l with
  | nil => cases hl
  | cons y l ih =>
    by_cases e : y = x
    · subst e
      have h1 : offG g y y = false := by unfold offG; rw [if_neg (fun q => mt_ne y q.symm), if_pos rfl]
      rw [List.filter_cons, List.filter_cons, if_neg (by rw [h1]; decide), if_pos hx, List.length_cons]
      exact Nat.lt_succ_of_le (hle l)
    · have hl' : x ∈ l := (List.mem_cons.mp hl).elim (fun q => absurd q.symm e) id
      have := ih hl'
      rw [List.filter_cons, List.filter_cons]
      by_cases h1 : offG g x y = true
      · rw [if_pos h1, if_pos (hoff y h1), List.length_cons, List.length_cons]; omega
      · rw [if_neg h1]
        split
        · rw [List.length_cons]; omega
        · exact this
theorem pure_law_core {K : PySem.W.Frag} (vs : List V) (H : Hp) (Q : VK) (E : XK) (h : sp_law_core K vs H Q E) : t_law_core K { nx := fun _ H' => Q .non H', rt := Q } (start N_law_core vs) H := by
  obtain ⟨a, D, m, rfl, hD, hv, hm, hl, k⟩ := h
  unfold t_law_core
  walk_at "S"
  refine s_dnew fun p H1 e1 n1 h1 => ?_
  walk_at "S"
  refine forD hD (fun i σ H' => ∃ y2 y3, σ = [some (.ref a), some (.ref p), y2, y3, none, none] ∧ Ex H H' ∧ IsK H' p (D.take i).flatten (fun _ => .bl true)) ⟨_, _, rfl, e1, k_new _ h1⟩ (fun i σ H' ⟨_, _, _, e, _⟩ => e) ?_ ?_
  · rintro i q r σ H2 hr hq hq0 ⟨y2, y3, rfl, e2, hk⟩
    walk_at "S"
    refine forI hq0 (fun t σ H' => ∃ y3, σ = [some (.ref a), some (.ref p), some (.ref q), y3, none, none] ∧ Ex H H' ∧ IsK H' p ((D.take i).flatten ++ r.take t) (fun _ => .bl true)) ⟨_, rfl, e2, by rw [List.take_zero, List.append_nil]; exact hk⟩ (fun i σ H' ⟨_, _, e, _⟩ => e) ?_ ?_
    · rintro t z σ H3 hz e3 ⟨y3, rfl, _, hk⟩
      have hln := take_flat_le (i := i) hv
      have hrl := hv.rowlen hr
      walk_at "S"
      refine k_put hk (ahead hv.nd hr hz) (by rw [List.length_append, List.length_take]; omega) rfl fun o hk' => ?_
      refine ⟨_, rfl, ex_mut e3 n1, ?_⟩
      rw [List.take_add_one, hz, ← List.append_assoc]
      exact hk'
    · rintro σ H3 ⟨y3, rfl, e3, hk⟩
      rw [List.take_length, ← take_flat hr] at hk
      exact ⟨_, _, rfl, e3, hk⟩
  rintro σ H2 ⟨y2, y3, rfl, e2, hk⟩
  rw [List.take_length] at hk
  walk_at "S"
  have hfl : D.flatten.length ≤ 2000 := by rw [hv.ln]; omega
  refine whileW (fun μ σ H' => ∃ y2 y3 y5 again g, σ = [some (.ref a), some (.ref p), y2, y3, some (.bl again), y5] ∧ Ex H H' ∧ IsK H' p D.flatten (fun z => .bl (g z)) ∧ (∀ e, g (mt e) = g e) ∧ μ = 2 * (D.flatten.filter g).length + (if again = true then 1 else 0) ∧ (again = false → ∀ r ∈ D, (r.filter g).length ≠ 1)) _ ⟨_, _, _, true, fun _ => true, rfl, e2, hk, fun _ => rfl, rfl, fun q => Bool.noConfusion q⟩ ?_
  rintro μ σ H3 ⟨y2, y3, y5, again, g, rfl, e3, hk, hg, rfl, hdone⟩
  walk_at "S"
  refine iteB (fun c => ?_) (fun c => ?_)
  · subst c
    rw [if_pos rfl]
    refine whT ?_
    walk_at "S"
    refine forD hD (fun i σ H' => ∃ y2 y3 y5 again' g', σ = [some (.ref a), some (.ref p), y2, y3, some (.bl again'), y5] ∧ Ex H H' ∧ IsK H' p D.flatten (fun z => .bl (g' z)) ∧ (∀ e, g' (mt e) = g' e) ∧ (again' = true → (D.flatten.filter g').length < (D.flatten.filter g).length) ∧
        (again' = false → g' = g ∧ ∀ (j : Nat) (r : List Int), j < i → D[j]? = some r → (r.filter g).length ≠ 1) ∧ (D.flatten.filter g').length ≤ (D.flatten.filter g).length)
      ⟨_, _, _, false, g, rfl, e3, hk, hg, fun q => Bool.noConfusion q, fun _ => ⟨rfl, fun j r hj => absurd hj (Nat.not_lt_zero j)⟩, Nat.le_refl _⟩ (fun i σ H' ⟨_, _, _, _, _, _, e, _⟩ => e) ?_ ?_
    · rintro i q r σ H4 hr hq hq0 ⟨y2, y3, y5, again', g', rfl, e4, hk', hg', ha1, ha2, ha3⟩
      have hrl := hv.rowlen hr
      walk_at "S"
      refine lcI hq (by omega) g' id (fun z hz H5 e5 R rr => ?_) (fun z hz hp H5 e5 R rr => ?_) fun kp H5 e5 n5 h5 => ?_
      · walk_at "S"
        refine k_get (hk'.ex' e5) (mem_flat.mpr ⟨i, r, hr, hz⟩) ?_
        walk_at "S"
        exact rr H5 (Ex.refl H5)
      · walk_at "S"
        exact rr H5 (Ex.refl H5)
      rw [List.map_id] at h5
      walk_at "S"
      refine a_len h5 ?_
      walk_at "S"
      have hkp : kp ≠ p := by
        obtain ⟨kvs, q1, _⟩ := (hk'.ex' e5).ex
        rintro rfl
        rw [show H5 kp = _ from h5] at q1; cases q1
      refine iteEq (fun c1 => ?_) (fun c1 => ?_)
      · obtain ⟨x, hx⟩ : ∃ x, r.filter g' = [x] := List.length_eq_one_iff.mp (by omega)
        have hxr : x ∈ r.filter g' := by rw [hx]; exact List.mem_singleton.mpr rfl
        obtain ⟨hxr1, hxg⟩ := List.mem_filter.mp hxr
        have hxf : x ∈ D.flatten := mem_flat.mpr ⟨i, r, hr, hxr1⟩
        have hxv := hv.rg x hxf
        rw [hx] at h5
        walk_at "S"
        refine a_ix (i := 0) h5 rfl ?_
        refine k_set (hk'.ex' e5) hxf (by omega) fun o hk6 => ?_
        have h6 : IsI (upd H5 p o) kp [x] := by
          show (upd H5 p o) kp = _
          rw [upd_ne hkp]; exact h5
        walk_at "S"
        refine a_ix (i := 0) h6 rfl ?_
        walk_at "S"
        refine k_set hk6 (hv.mem (mt_lo hxv.1) (mt_hi hxv.2)) (by omega) fun o2 hk7 => ?_
        walk_at "S"
        have hlt := off_lt hxg hxf
        refine ⟨_, _, _, true, offG g' x, rfl, ex_mut (ex_mut (e4.trans e5) n1) n1, hk7.cg fun z => ?_, off_mt hg', fun _ => by omega, fun q => Bool.noConfusion q, by omega⟩
        unfold offG
        by_cases z1 : z = mt x
        · rw [if_pos z1, if_pos z1]
        · rw [if_neg z1, if_neg z1]
          by_cases z2 : z = x
          · rw [if_pos z2, if_pos z2]
          · rw [if_neg z2, if_neg z2]
      · walk_at "S"
        refine ⟨_, _, _, again', g', rfl, e4.trans e5, hk'.ex' e5, hg', ha1, fun q => ⟨(ha2 q).1, fun j s hj hs => ?_⟩, ha3⟩
        by_cases hji : j = i
        · subst hji
          rw [hr] at hs
          cases hs
          rw [← (ha2 q).1]
          omega
        · exact (ha2 q).2 j s (by omega) hs
    · rintro σ H4 ⟨y2, y3, y5, again', g', rfl, e4, hk', hg', ha1, ha2, ha3⟩
      refine ⟨_, ?_, _, _, _, again', g', rfl, e4, hk', hg', rfl, fun q r hr => ?_⟩
      · cases again' with
        | true => have := ha1 rfl; rw [if_pos rfl]; omega
        | false => rw [if_neg (by decide), (ha2 rfl).1]; omega
      · obtain ⟨j, hj⟩ := List.mem_iff_getElem?.mp hr
        rw [(ha2 q).1]
        exact (ha2 q).2 j r (List.getElem?_eq_some_iff.mp hj).1 hj
  · walk_at "S"
    obtain ⟨kvs, q1, q2, q3⟩ := hk.ex
    exact k H3 p kvs D.flatten g e3 n1 q1 q2 (List.Perm.refl _) q3 ⟨hg, hdone c⟩

section
variable {P : Program} {w : World} {K : PySem.W.Frag} {mg : Str → Option Value} {base : Heap}
theorem sc_law_core : FnScope N_law_core ["_law_drawing_here"] (defScope s_law_core) := ⟨rfl, rfl, rfl, by decide +kernel, rfl, by decide +kernel, by decide +kernel⟩
theorem cal_law_core (B : Blt mg) (D : Dfn K mg "_law_core" s_law_core ["_law_drawing_here"]) (C_law_mate : Cal P w K mg base CX0 1 "_law_mate" ["_law_end"] (sp_law_mate K)) : Cal P w K mg base CX0 2 "_law_core" ["_law_drawing_here"] (sp_law_core K) := by
  refine cal_mk D fun f fd F => F.ok sc_law_core (fun vs H Q E h => len_law_core h) (fun cdv A outer s H vs Q E hr h => ⟨t_law_core K, ?_, pure_law_core vs H Q E h⟩)
  have hu := hu_of hr
  exact (pss_cons (ps_set (i := 1) sc_law_core.nd rfl (Or.inr rfl) pe_dnewK)
        (pss_cons (ps_for PassesOwn.never rfl (pi_list (pv 0)) (pg_name (i := 2) sc_law_core.nd rfl (Or.inl rfl)) (pss_one (ps_for PassesOwn.never rfl (pi_list (pv 2)) (pg_name (i := 3) sc_law_core.nd rfl (Or.inl rfl)) (pss_one (ps_dput hu (pv 1) (pv 3) pe_bl rfl)))))
        (pss_cons (ps_set (i := 4) sc_law_core.nd rfl (Or.inl rfl) pe_bl)
        (pss_cons (ps_while PassesOwn.never (pt_val (pv 4)) (pss_cons (ps_set (i := 4) sc_law_core.nd rfl (Or.inl rfl) pe_bl)
          (pss_one (ps_for PassesOwn.never rfl (pi_list (pv 0)) (pg_name (i := 2) sc_law_core.nd rfl (Or.inl rfl)) (pss_cons (ps_setLc (i := 5) (own := [("_law_end", 3)]) (g := gName 3) rfl sc_law_core.nd rfl rfl (sw_true rfl rfl rfl (by decide +kernel)) (pi_list (pv 2)) (blkOk_by (own := [("_law_end", 3)]) (N := N_law_core) (sc := (defScope s_law_core)) (by decide +kernel)) (fun _ _ _ _ _ => pg_name (i := 3) sc_law_core.nd rfl (Or.inl rfl)) (fun _ _ _ _ _ => (pts_one (pt_val (pe_dget hu (pv 1) (pv 3) (fun _ _ => rfl))))) (fun _ _ _ _ _ => (pv 3)))
            (pss_one (ps_if (pt_cmpR op_eq (pe_callB call_len_seq (by rfl) B.len_ PySem.boot_len (pa_cons (pv 5) pa_nil)) pe_int (nomark _)) (pss_cons (ps_dput hu (pv 1) (pe_ix ix_list (pv 5) pe_int (fun _ _ => rfl)) pe_bl rfl)
              (pss_cons (ps_dput hu (pv 1) (pe_cal C_law_mate hr (by decide) (by rfl) (pa_cons (pe_ix ix_list (pv 5) pe_int (fun _ _ => rfl)) pa_nil)) pe_bl rfl)
              (pss_one (ps_set (i := 4) sc_law_core.nd rfl (Or.inl rfl) pe_bl)))) pss_nil)))))))
        (pss_one (ps_ret (pv 1)))))))
end

abbrev s_law_turn : Stmt := top 41
abbrev N_law_turn : List Str := ["_law_drawing_here", "_law_cell_here", "_law_stay", "_law_good", "_law_seats_here", "_law_picks", "_law_walk", "_law_k", "_law_place", "_law_at", "_law_ways", "_law_end"]
-- slots: 0 drawing_here, 1 cell_here, 2 stay, 3 good, 4 seats_here, 5 picks, 6 walk, 7 k, 8 place, 9 at, 10 ways, 11 end
def t_law_turn (K : PySem.W.Frag) : TS :=
  (tSeq (tAsg (tCal (sp_law_core K) (tCons (tVar 0) tNil)) (gName 2))
        (tSeq (tAsg (tLc (iList K (tCB rSortedDN (tCons (tVar 2) tNil))) (gName 11) (tB (tDGet (tVar 2) (tVar 11))) (tVar 11) [11]) (gName 3))
        (tSeq (tIfS (tTest (tOp rEq (tCB (bLen K) (tCons (tVar 3) tNil)) (tC (.int 0)))) (tRet (tLst tNil)) tNext)
        (tSeq (tAsg (tCal (sp_law_seats K) (tCons (tVar 0) tNil)) (gName 4))
        (tSeq (tAsg (tCal (sp_law_draws K) (tCons (tVar 1) (tCons (tOp rCat (tLst (tCons (tCB (bLen K) (tCons (tVar 3) tNil)) tNil)) (tOp rRep (tLst (tCons (tC (.int 840)) tNil)) (tOp rAdd (tCB (bLen K) (tCons (tVar 0) tNil)) (tC (.int 1))))) tNil))) (gName 5))
        (tSeq (tAsg (tLst (tCons (tOp (rIxL K) (tVar 3) (tOp (rIxL K) (tVar 5) (tC (.int 0)))) tNil)) (gName 6))
        (tSeq (tFor (iRng1 (tCons (tOp rAdd (tCB (bLen K) (tCons (tVar 0) tNil)) (tC (.int 1))) tNil)) (gName 7) (tSeq (tAsg (tDGet (tVar 4) (tCal (sp_law_mate K) (tCons (tOp (rIxL K) (tVar 6) (tUn uNeg (tC (.int 1)))) tNil))) (gName 8))
          (tSeq (tFor (iRng1 (tCons (tCB (bLen K) (tCons (tVar 6) tNil)) tNil)) (gName 9) (tIfS (tTest (tOp rEq (tDGet (tVar 4) (tOp (rIxL K) (tVar 6) (tVar 9))) (tVar 8))) (tRet (tSl (rSlL K) (tVar 6) (tPart (tVar 9)) tNoPart)) tNext))
          (tSeq (tAsg (tLc (iList K (tOp (rIxL K) (tVar 0) (tVar 8))) (gName 11) (tAnd (tB (tDGet (tVar 2) (tVar 11))) (tTest (tOp rNe (tVar 11) (tCal (sp_law_mate K) (tCons (tOp (rIxL K) (tVar 6) (tUn uNeg (tC (.int 1)))) tNil))))) (tVar 11) [11]) (gName 10))
          (tDrop (tBM K "list" rAppend (tVar 6) (tCons (tOp (rIxL K) (tVar 10) (tOp rMod (tOp (rIxL K) (tVar 5) (tOp rAdd (tVar 7) (tC (.int 1)))) (tCB (bLen K) (tCons (tVar 10) tNil)))) tNil)))))))
        (tRet (tLst tNil)))))))))
theorem len_law_turn {K : PySem.W.Frag} {vs : List V} {H : Hp} {Q : VK} {E : XK} (h : sp_law_turn K vs H Q E) : vs.length = (["_law_drawing_here", "_law_cell_here"] : List Str).length := by
  obtain ⟨a, D, m, c, rfl, _⟩ := h; rfl
theorem core_two {r : List Int} {g : Int → Bool} {e : Int} (hn : r.Nodup) (he : e ∈ r) (hg : g e = true) (h2 : (r.filter g).length ≠ 1) : 0 < (r.filter fun z => g z && !decide (z = e)).length := by
  refine Nat.pos_of_ne_zero fun h0 => ?_
  have hnil := List.length_eq_zero_iff.mp h0
  have hall : ∀ z ∈ r.filter g, z = e := fun z hz => by
    obtain ⟨z1, z2⟩ := List.mem_filter.mp hz
    refine Decidable.byContradiction fun q => ?_
    have : z ∈ r.filter fun z => g z && !decide (z = e) := List.mem_filter.mpr ⟨z1, by rw [z2, decide_eq_false q]; rfl⟩
    rw [hnil] at this
    cases this
  have hm : e ∈ r.filter g := List.mem_filter.mpr ⟨he, hg⟩
  have hd : (r.filter g).Nodup := hn.sublist List.filter_sublist
  generalize r.filter g = l at *
  cases l with
  | nil => cases hm
  | cons x l =>
    cases l with
    | nil => exact h2 rfl
    | cons y l =>
      have e1 := hall x (List.mem_cons_self ..)
      have e2 := hall y (List.mem_cons_of_mem _ (List.mem_cons_self ..))
      rw [e1, e2] at hd
      exact (List.nodup_cons.mp hd).1 (List.mem_cons_self ..)
theorem seat_get2 {D : Dr} {m : Nat} {f : Int → Option Int} {e : Int} (hf : ∀ z, f z = if z ∈ D.flatten then some ((seat D z : Nat) : Int) else none) (h : e ∈ D.flatten) : f e = some ((seat D e : Nat) : Int) := by
  rw [hf, if_pos h]
theorem a_last {K : PySem.W.Frag} {H : Hp} {a : Addr} {ns : List Int} {z : Int} {Q : VK} (h : IsI H a ns) (hz : ns[ns.length - 1]? = some z) (k : Q (.int z) H) : rIxL K (.ref a) (.int (-1)) H Q :=
  ⟨_, _, _, _, rfl, rfl, h.sq, atI_neg1 (by rw [List.length_map, List.getElem?_map, hz]; rfl), k⟩
theorem pure_law_turn {K : PySem.W.Frag} (vs : List V) (H : Hp) (Q : VK) (E : XK) (h : sp_law_turn K vs H Q E) : t_law_turn K { nx := fun _ H' => Q .non H', rt := Q } (start N_law_turn vs) H := by
  obtain ⟨a, D, m, c, rfl, hD, hv, hm, hl, k⟩ := h
  unfold t_law_turn
  walk_at "S"
  refine ⟨a, D, m, rfl, hD, hv, hm, hl, fun H1 p kvs ks g e1 n1 h1 hks hp hval hcore => ?_⟩
  have hst : IsT H1 p (fun z => if z ∈ D.flatten then some (.bl (g z)) else none) kvs.length := ⟨⟨kvs, h1, Nat.le_refl _, hval⟩⟩
  have stay : ∀ {H' : Hp} {z : Int} {Q : VK}, Ex H1 H' → z ∈ D.flatten → Q (.bl (g z)) H' → rDGet (.ref p) (.int z) H' Q := fun e hz q => t_get (hst.ex' e) (if_pos hz) q
  have hks2 : ∀ z ∈ ks, z ∈ D.flatten := fun z hz => hp.mem_iff.mp hz
  have hln : ks.length = 2 * m := by rw [hp.length_eq, hv.ln]
  walk_at "S"
  refine ⟨p, kvs, ks, rfl, .inl h1, hks, fun ys q hys _ nq => ?_⟩
  have e2 : Ex H1 (upd H1 q (.lst (ys.map V.int))) := Ex.new nq
  have h2 : IsI (upd H1 q (.lst (ys.map V.int))) q ys := upd_same
  generalize hH2 : upd H1 q (.lst (ys.map V.int)) = H2 at e2 h2
  have hysm : ∀ z ∈ ys, z ∈ D.flatten := fun z hz => hks2 z (hys.mem_iff.mp hz)
  refine lcI h2 (by rw [hys.length_eq]; omega) g id (fun z hz H3 e3 R rr => ?_) (fun z hz hp H3 e3 R rr => ?_) fun gp H3 e3 n3 h3 => ?_
  · walk_at "S"
    refine stay (e2.trans e3) (hysm z hz) ?_
    walk_at "S"
    exact rr H3 (Ex.refl H3)
  · walk_at "S"
    exact rr H3 (Ex.refl H3)
  rw [List.map_id] at h3
  have e03 := (e1.trans e2).trans e3
  have hgm : ∀ z ∈ ys.filter g, z ∈ D.flatten ∧ g z = true := fun z hz => ⟨hysm z (List.mem_filter.mp hz).1, (List.mem_filter.mp hz).2⟩
  have hgl : (ys.filter g).length ≤ 2000 := by
    have := List.length_filter_le g ys
    rw [hys.length_eq] at this
    omega
  generalize ys.filter g = good at h3 hgm hgl
  walk_at "S"
  refine a_len h3 ?_
  walk_at "S"
  refine iteEq (fun c0 => ?_) (fun c0 => ?_)
  · walk_at "S"
    refine new0 fun r H4 e4 n4 h4 => ?_
    exact k H4 r [] (e03.trans e4) (ex_back e03 n4) h4 (Nat.zero_le _)
  walk_at "S"
  refine ⟨a, D, m, rfl, hD.ex' e03, hv, by omega, by omega, fun H4 sp f e4 n4 hs hf => ?_⟩
  walk_at "S"
  refine a_len (h3.ex e4) ?_
  walk_at "S"
  refine new1 fun l1 H5 e5 n5 h5 => ?_
  walk_at "S"
  refine new1 fun l2 H6 e6 n6 h6 => ?_
  walk_at "S"
  have e06 := ((e03.trans e4).trans e5).trans e6
  refine a_lenD (hD.ex' e06) ?_
  walk_at "S"
  rw [show ((D.length : Nat) : Int) + 1 = ((D.length + 1 : Nat) : Int) by omega]
  refine a_rep h6 (by omega) fun l3 H7 e7 n7 h7 => ?_
  refine a_cat (h5.ex (e6.trans e7)) h7 (by rw [List.length_replicate]; show 1 + _ ≤ _; omega) fun l4 H8 e8 n8 h8 => ?_
  walk_at "S"
  have e08 := (e06.trans e7).trans e8
  refine ⟨c, l4, _, rfl, h8, fun s hs => ?_, by rw [List.length_append, List.length_replicate]; show 1 + _ ≤ _; omega, fun H9 pp ps e9 n9 hpp hdr => ?_⟩
  · rcases List.mem_append.mp hs with hs | hs
    · rw [List.mem_singleton.mp hs]; omega
    · rw [List.eq_of_mem_replicate hs]; omega
  have e09 := e08.trans e9
  have e39 : Ex H3 H9 := (((e4.trans e5).trans e6).trans (e7.trans e8)).trans e9
  obtain ⟨p0, hp0, hp0l⟩ := drawn_get (i := 0) hdr rfl
  have hg0 : good[p0]? = some good[p0] := List.getElem?_eq_getElem (by omega)
  walk_at "S"
  refine a_ix (i := 0) hpp hp0 ?_
  refine a_ix (h3.ex e39) hg0 ?_
  walk_at "S"
  refine new1 fun wp H10 e10 n10 h10 => ?_
  have e0x := e09.trans e10
  have nw : H wp = none := ex_back e09 n10
  walk_at "S"
  refine a_lenD (hD.ex' e0x) ?_
  walk_at "S"
  rw [show ((D.length : Nat) : Int) + 1 = ((D.length + 1 : Nat) : Int) by omega]
  have hg0m := hgm _ (List.mem_of_getElem? hg0)
  generalize good[p0] = z0 at h10 hg0m
  refine forR (n := D.length + 1) (by omega) (fun i σ H' => ∃ y7 y8 y9 y10 y11 ns, σ = [some (.ref a), some (.int c), some (.ref p), some (.ref gp), some (.ref sp), some (.ref pp), some (.ref wp), y7, y8, y9, y10, y11] ∧ Ex H9 H' ∧ IsI H' wp ns ∧ ns.length = i + 1 ∧ ∀ z ∈ ns, z ∈ D.flatten ∧ g z = true)
    ⟨_, _, _, _, _, _, rfl, e10, h10, rfl, fun z hz => by rw [List.mem_singleton.mp hz]; exact hg0m⟩ ?_ ?_
  · rintro i σ H11 hi ⟨y7, y8, y9, y10, y11, ns, rfl, e11, hw, hwl, hwm⟩
    have hlast : ns[ns.length - 1]? = some ns[ns.length - 1] := List.getElem?_eq_getElem (by omega)
    have hlm := hwm _ (List.mem_of_getElem? hlast)
    generalize ns[ns.length - 1] = e at hlast hlm
    have her := hv.rg e hlm.1
    have hmt : mt e ∈ D.flatten := hv.mem (mt_lo her.1) (mt_hi her.2)
    obtain ⟨r, hr, hrm⟩ := seat_at hmt
    have e411 : Ex H4 H11 := ((e5.trans e6).trans (e7.trans e8)).trans (e9.trans e11)
    have e111 : Ex H1 H11 := (e2.trans e3).trans (e4.trans e411)
    have e011 : Ex H H11 := e1.trans e111
    walk_at "S"
    refine a_last hw hlast ?_
    walk_at "S"
    refine m_get (hs.ex' e411) (seat_get2 (m := m) hf hmt) ?_
    walk_at "S"
    refine a_len hw ?_
    walk_at "S"
    refine forR (n := ns.length) (by omega) (fun j σ H' => ∃ y9, σ = [some (.ref a), some (.int c), some (.ref p), some (.ref gp), some (.ref sp), some (.ref pp), some (.ref wp), some (.int (i : Int)), some (.int ((seat D (mt e) : Nat) : Int)), y9, y10, y11] ∧ H' = H11) ⟨_, rfl, rfl⟩ ?_ ?_
    · rintro j σ H12 hj ⟨y9, rfl, rfl⟩
      have hjg : ns[j]? = some ns[j] := List.getElem?_eq_getElem hj
      walk_at "S"
      refine a_ix hw hjg ?_
      walk_at "S"
      refine m_get (hs.ex' e411) (seat_get2 (m := m) hf (hwm _ (List.mem_of_getElem? hjg)).1) ?_
      walk_at "S"
      refine iteEq (fun c1 => ?_) (fun c1 => ?_)
      · walk_at "S"
        refine a_from hw fun q2 H13 e13 n13 h13 => ?_
        exact k H13 q2 _ (e011.trans e13) (ex_back e011 n13) h13 (by show (ns.drop j).length ≤ 2000; rw [List.length_drop]; omega)
      · walk_at "S"
        exact ⟨_, rfl, rfl⟩
    rintro σ H12 ⟨y9, rfl, rfl⟩
    walk_at "S"
    refine a_ixD (hD.ex' e011) hr fun rp hrp => ?_
    have hrl := hv.rowlen hr
    refine lcI hrp (by omega) (fun z => g z && !decide (z = mt e)) id (fun z hz H13 e13 R rr => ?_) (fun z hz hp H13 e13 R rr => ?_) fun ways H13 e13 n13 h13 => ?_
    · walk_at "S"
      refine stay (e111.trans e13) (mem_flat.mpr ⟨_, r, hr, hz⟩) ?_
      walk_at "S"
      have rr' := rr H13 (Ex.refl H13)
      cases hgz : g z with
      | true =>
        rw [hgz] at rr'
        rw [if_pos rfl]
        walk_at "S"
        refine a_last (hw.ex e13) hlast ?_
        walk_at "S"
        have ed : decide (V.int z = V.int (mt e)) = decide (z = mt e) := by
          by_cases q : z = mt e
          · rw [decide_eq_true q, decide_eq_true (congrArg V.int q)]
          · rw [decide_eq_false q, decide_eq_false (fun t => q (V.int.inj t))]
        rw [ed]
        exact rr'
      | false =>
        rw [hgz] at rr'
        rw [if_neg (by decide)]
        exact rr'
    · walk_at "S"
      exact rr H13 (Ex.refl H13)
    rw [List.map_id] at h13
    have hpos := core_two (nodup_row hv.nd hr) hrm (by rw [hcore.mate]; exact hlm.2) (hcore.two r (List.mem_of_getElem? hr))
    have hwm2 : ∀ z ∈ r.filter (fun z => g z && !decide (z = mt e)), z ∈ D.flatten ∧ g z = true := fun z hz => by
      obtain ⟨z1, z2⟩ := List.mem_filter.mp hz
      rw [Bool.and_eq_true] at z2
      exact ⟨mem_flat.mpr ⟨_, r, hr, z1⟩, z2.1⟩
    generalize r.filter (fun z => g z && !decide (z = mt e)) = wl at h13 hpos hwm2
    obtain ⟨pi, hpi, hpil⟩ := drawn_get (i := i + 1) (s := 840) hdr (by
      rw [List.getElem?_append_right (by show 1 ≤ _; omega)]
      show (List.replicate (D.length + 1) (840 : Int))[i + 1 - 1]? = _
      rw [Nat.add_sub_cancel, List.getElem?_replicate, if_pos hi])
    walk_at "S"
    refine ⟨tyl (hw.ex e13), ?_⟩
    walk_at "S"
    rw [show ((i : Nat) : Int) + 1 = ((i + 1 : Nat) : Int) by omega]
    refine a_ix (hpp.ex (e11.trans e13)) hpi ?_
    walk_at "S"
    refine a_len h13 ?_
    refine s_I (cmod (show ((wl.length : Nat) : Int) ≠ 0 by omega)) ?_
    rw [fmod_nat]
    have hlt := Nat.mod_lt pi hpos
    have hgw : wl[pi % wl.length]? = some wl[pi % wl.length] := List.getElem?_eq_getElem hlt
    refine a_ix h13 hgw ?_
    walk_at "S"
    have hwz := hwm2 _ (List.mem_of_getElem? hgw)
    generalize wl[pi % wl.length] = znew at hwz
    refine a_app (hw.ex e13) (by omega) ?_
    have nw9 : H9 wp = none := n10
    refine ⟨_, _, _, _, _, ns ++ [znew], rfl, ex_mut (e11.trans e13) nw9, upd_same, by rw [List.length_append, hwl]; rfl, fun z hz => ?_⟩
    rcases List.mem_append.mp hz with hz | hz
    · exact hwm z hz
    · rw [List.mem_singleton.mp hz]; exact hwz
  · rintro σ H11 ⟨y7, y8, y9, y10, y11, ns, rfl, e11, _⟩
    walk_at "S"
    have e011 := e09.trans e11
    refine new0 fun r H12 e12 n12 h12 => ?_
    exact k H12 r [] (e011.trans e12) (ex_back e011 n12) h12 (Nat.zero_le _)

section
variable {P : Program} {w : World} {K : PySem.W.Frag} {mg : Str → Option Value} {base : Heap}
theorem sc_law_turn : FnScope N_law_turn ["_law_drawing_here", "_law_cell_here"] (defScope s_law_turn) := ⟨rfl, rfl, rfl, by decide +kernel, rfl, by decide +kernel, by decide +kernel⟩
theorem cal_law_turn (B : Blt mg) (D : Dfn K mg "_law_turn" s_law_turn ["_law_drawing_here", "_law_cell_here"]) (C_law_core : Cal P w K mg base CX0 2 "_law_core" ["_law_drawing_here"] (sp_law_core K)) (C_law_seats : Cal P w K mg base CX0 1 "_law_seats" ["_law_drawing_here"] (sp_law_seats K)) (C_law_draws : Cal P w K mg base CX0 1 "_law_draws" ["_law_cell_here", "_law_sizes"] (sp_law_draws K)) (C_law_mate : Cal P w K mg base CX0 1 "_law_mate" ["_law_end"] (sp_law_mate K)) : Cal P w K mg base CX0 3 "_law_turn" ["_law_drawing_here", "_law_cell_here"] (sp_law_turn K) := by
  refine cal_mk D fun f fd F => F.ok sc_law_turn (fun vs H Q E h => len_law_turn h) (fun cdv A outer s H vs Q E hr h => ⟨t_law_turn K, ?_, pure_law_turn vs H Q E h⟩)
  have hu := hu_of hr
  exact (pss_cons (ps_set (i := 2) sc_law_turn.nd rfl (Or.inr rfl) (pe_cal C_law_core hr (by decide) (by rfl) (pa_cons (pv 0) pa_nil)))
        (pss_cons (ps_setLc (i := 3) (own := [("_law_end", 11)]) (g := gName 11) rfl sc_law_turn.nd rfl rfl (sw_true rfl rfl rfl (by decide +kernel)) (pi_list (pe_callB (cr_sortedDN rfl) (by rfl) B.sorted_ (by decide +kernel) (pa_cons (pv 2) pa_nil))) (blkOk_by (own := [("_law_end", 11)]) (N := N_law_turn) (sc := (defScope s_law_turn)) (by decide +kernel)) (fun _ _ _ _ _ => pg_name (i := 11) sc_law_turn.nd rfl (Or.inl rfl)) (fun _ _ _ _ _ => (pts_one (pt_val (pe_dget hu (pv 2) (pv 11) (fun _ _ => rfl))))) (fun _ _ _ _ _ => (pv 11)))
        (pss_cons (ps_if (pt_cmpR op_eq (pe_callB call_len_seq (by rfl) B.len_ PySem.boot_len (pa_cons (pv 3) pa_nil)) pe_int (nomark _)) (pss_one (ps_ret (pe_lst pa_nil))) pss_nil)
        (pss_cons (ps_set (i := 4) sc_law_turn.nd rfl (Or.inl rfl) (pe_cal C_law_seats hr (by decide) (by rfl) (pa_cons (pv 0) pa_nil)))
        (pss_cons (ps_set (i := 5) sc_law_turn.nd rfl (Or.inl rfl) (pe_cal C_law_draws hr (by decide) (by rfl) (pa_cons (pv 1) (pa_cons (pe_op op_cat (pe_lst (pa_cons (pe_callB call_len_seq (by rfl) B.len_ PySem.boot_len (pa_cons (pv 3) pa_nil)) pa_nil)) (pe_op op_rep (pe_lst (pa_cons pe_int pa_nil)) (pe_op op_add (pe_callB call_len_seq (by rfl) B.len_ PySem.boot_len (pa_cons (pv 0) pa_nil)) pe_int))) pa_nil))))
        (pss_cons (ps_set (i := 6) sc_law_turn.nd rfl (Or.inr rfl) (pe_lst (pa_cons (pe_ix ix_list (pv 3) (pe_ix ix_list (pv 5) pe_int (fun _ _ => rfl)) (fun _ _ => rfl)) pa_nil)))
        (pss_cons (ps_for PassesOwn.never rfl (pi_range1 (by rfl) B.range_ (pa_cons (pe_op op_add (pe_callB call_len_seq (by rfl) B.len_ PySem.boot_len (pa_cons (pv 0) pa_nil)) pe_int) pa_nil)) (pg_name (i := 7) sc_law_turn.nd rfl (Or.inl rfl)) (pss_cons (ps_set (i := 8) sc_law_turn.nd rfl (Or.inl rfl) (pe_dget hu (pv 4) (pe_cal C_law_mate hr (by decide) (by rfl) (pa_cons (pe_ix ix_list (pv 6) (pe_un un_neg pe_int) (fun _ _ => rfl)) pa_nil)) (fun _ _ => rfl)))
          (pss_cons (ps_for PassesOwn.never rfl (pi_range1 (by rfl) B.range_ (pa_cons (pe_callB call_len_seq (by rfl) B.len_ PySem.boot_len (pa_cons (pv 6) pa_nil)) pa_nil)) (pg_name (i := 9) sc_law_turn.nd rfl (Or.inl rfl)) (pss_one (ps_if (pt_cmpR op_eq (pe_dget hu (pv 4) (pe_ix ix_list (pv 6) (pv 9) (fun _ _ => rfl)) (fun _ _ => rfl)) (pv 8) (nomark _)) (pss_one (ps_ret (pe_slice sl_list (pv 6) (po_some (pv 9)) po_none))) pss_nil)))
          (pss_cons (ps_setLc (i := 10) (own := [("_law_end", 11)]) (g := gName 11) rfl sc_law_turn.nd rfl rfl (sw_true rfl rfl rfl (by decide +kernel)) (pi_list (pe_ix ix_list (pv 0) (pv 8) (fun _ _ => rfl))) (blkOk_by (own := [("_law_end", 11)]) (N := N_law_turn) (sc := (defScope s_law_turn)) (by decide +kernel)) (fun _ _ _ _ _ => pg_name (i := 11) sc_law_turn.nd rfl (Or.inl rfl)) (fun _ _ _ _ _ => (pts_one (PW.pt (pw_and (pt_val (pe_dget hu (pv 2) (pv 11) (fun _ _ => rfl))) (pw_and1 (pt_cmpR op_ne (pv 11) (pe_cal C_law_mate hr (by decide) (by rfl) (pa_cons (pe_ix ix_list (pv 6) (pe_un un_neg pe_int) (fun _ _ => rfl)) pa_nil)) (nomark _))))))) (fun _ _ _ _ _ => (pv 11)))
          (pss_one (ps_expr (pe_bm PySem.F.plainAttrs_list PySem.F.slot_list_append PySem.F.type_list_append mt_append (pv 6) (pa_cons (pe_ix ix_list (pv 10) (pe_op op_modN (pe_ix ix_list (pv 5) (pe_op op_add (pv 7) pe_int) (fun _ _ => rfl)) (pe_callB call_len_seq (by rfl) B.len_ PySem.boot_len (pa_cons (pv 10) pa_nil))) (fun _ _ => rfl)) pa_nil))))))))
        (pss_one (ps_ret (pe_lst pa_nil))))))))))
end

abbrev s_law_about : Stmt := top 42
abbrev N_law_about : List Str := ["_law_walk", "_law_end"]
-- slots: 0 walk, 1 end
def t_law_about (K : PySem.W.Frag) : TS :=
  (tRet (tLc (iList K (tRevL K (tVar 0))) (gName 1) tYes (tCal (sp_law_mate K) (tCons (tVar 1) tNil)) [1]))
theorem len_law_about {K : PySem.W.Frag} {vs : List V} {H : Hp} {Q : VK} {E : XK} (h : sp_law_about K vs H Q E) : vs.length = (["_law_walk"] : List Str).length := by
  obtain ⟨a, ns, rfl, _⟩ := h; rfl
theorem pure_law_about {K : PySem.W.Frag} (vs : List V) (H : Hp) (Q : VK) (E : XK) (h : sp_law_about K vs H Q E) : t_law_about K { nx := fun _ H' => Q .non H', rt := Q } (start N_law_about vs) H := by
  obtain ⟨a, ns, rfl, hI, hl, k⟩ := h
  unfold t_law_about
  walk_at "S"
  refine a_rev hI fun p H1 e1 n1 h1 => ?_
  refine lcI1 h1 (by rw [List.length_reverse]; omega) mt (fun z hz H2 e2 R r => ?_) fun q H2 e2 n2 h2 => ?_
  · walk_at "S"
    exact r H2 (Ex.refl H2)
  · exact k H2 q _ (e1.trans e2) (ex_back e1 n2) h2 rfl

section
variable {P : Program} {w : World} {K : PySem.W.Frag} {mg : Str → Option Value} {base : Heap}
theorem sc_law_about : FnScope N_law_about ["_law_walk"] (defScope s_law_about) := ⟨rfl, rfl, rfl, by decide +kernel, rfl, by decide +kernel, by decide +kernel⟩
theorem cal_law_about (B : Blt mg) (D : Dfn K mg "_law_about" s_law_about ["_law_walk"]) (C_law_mate : Cal P w K mg base CX0 1 "_law_mate" ["_law_end"] (sp_law_mate K)) : Cal P w K mg base CX0 2 "_law_about" ["_law_walk"] (sp_law_about K) := by
  refine cal_mk D fun f fd F => F.ok sc_law_about (fun vs H Q E h => len_law_about h) (fun cdv A outer s H vs Q E hr h => ⟨t_law_about K, ?_, pure_law_about vs H Q E h⟩)
  have hu := hu_of hr
  exact (pss_one (ps_ret (pe_lc (own := [("_law_end", 1)]) (g := gName 1) rfl sc_law_about.nd (pi_list (pe_revL (pv 0))) (blkOk_by (own := [("_law_end", 1)]) (N := N_law_about) (sc := (defScope s_law_about)) (by decide +kernel)) (fun _ _ _ _ _ => pg_name (i := 1) sc_law_about.nd rfl (Or.inl rfl)) (fun _ _ _ _ _ => pts_nil) (fun _ _ _ _ _ => (pe_cal C_law_mate hr (by decide) (by rfl) (pa_cons (pv 1) pa_nil))))))
end

abbrev s_law_spoilt : Stmt := top 43
abbrev N_law_spoilt : List Str := ["_law_walk", "_law_ends", "_law_draws_here", "_law_how", "_law_at", "_law_to", "_law_number", "_law_found", "_law_value", "_law_kept"]
-- slots: 0 walk, 1 ends, 2 draws_here, 3 how, 4 at, 5 to, 6 number, 7 found, 8 value, 9 kept
def t_law_spoilt (K : PySem.W.Frag) : TS :=
  (tSeq (tAsg (tVar 2) (gUnl K 4 (gCons (gName 3) (gCons (gName 4) (gCons (gName 5) (gCons (gName 6) gNil))))))
        (tSeq (tAsg (tCB (bList K) (tCons (tVar 0) tNil)) (gName 7))
        (tSeq (tAsg (tOp rSub (tOp rMod (tVar 6) (tOp rAdd (tVar 1) (tC (.int 5)))) (tC (.int 2))) (gName 8))
        (tSeq (tIfS (tTest (tOp rGt (tVar 6) (tC (.int 52)))) (tAsg (tOp rMul (tOp rAdd (tOp rPow (tC (.int 10)) (tC (.int 59))) (tVar 6)) (tOp rSub (tC (.int 1)) (tOp rMul (tC (.int 2)) (tOp rMod (tVar 6) (tC (.int 2)))))) (gName 8)) tNext)
        (tSeq (tIfS (tTest (tOp rEq (tVar 3) (tC (.int 1)))) (tDrop (tBM K "list" mIns (tVar 7) (tCons (tOp rMod (tVar 4) (tOp rAdd (tCB (bLen K) (tCons (tVar 7) tNil)) (tC (.int 1)))) (tCons (tVar 8) tNil)))) tNext)
        (tSeq (tIfS (tTest (tOp rEq (tCB (bLen K) (tCons (tVar 7) tNil)) (tC (.int 0)))) (tRet (tVar 7)) tNext)
        (tSeq (tAsg (tOp rMod (tVar 4) (tCB (bLen K) (tCons (tVar 7) tNil))) (gName 4))
        (tSeq (tAsg (tOp rMod (tVar 5) (tCB (bLen K) (tCons (tVar 7) tNil))) (gName 5))
        (tSeq (tIfS (tTest (tOp rEq (tVar 3) (tC (.int 2)))) (tAsg (tVar 8) (gSub (tVar 7) (tVar 4) rSetL)) tNext)
        (tSeq (tIfS (tTest (tOp rEq (tVar 3) (tC (.int 3)))) (tDrop (tBM K "list" rPopAt (tVar 7) (tCons (tVar 4) tNil))) tNext)
        (tSeq (tIfS (tTest (tOp rEq (tVar 3) (tC (.int 4)))) (tSeq (tAsg (tOp (rIxL K) (tVar 7) (tVar 4)) (gName 9))
          (tSeq (tAsg (tOp (rIxL K) (tVar 7) (tVar 5)) (gSub (tVar 7) (tVar 4) rSetL))
          (tAsg (tVar 9) (gSub (tVar 7) (tVar 5) rSetL)))) tNext)
        (tSeq (tIfS (tTest (tOp rEq (tVar 3) (tC (.int 5)))) (tAsg (tRevL K (tVar 7)) (gName 7)) tNext)
        (tSeq (tIfS (tTest (tOp rEq (tVar 3) (tC (.int 6)))) (tAsg (tOp rCat (tSl (rSlL K) (tVar 7) (tPart (tVar 4)) tNoPart) (tSl (rSlL K) (tVar 7) tNoPart (tPart (tVar 4)))) (gName 7)) tNext)
        (tSeq (tIfS (tTest (tOp rEq (tVar 3) (tC (.int 7)))) (tAsg (tCal (sp_law_about K) (tCons (tVar 7) tNil)) (gName 7)) tNext)
        (tRet (tVar 7))))))))))))))))
theorem len_law_spoilt {K : PySem.W.Frag} {vs : List V} {H : Hp} {Q : VK} {E : XK} (h : sp_law_spoilt K vs H Q E) : vs.length = (["_law_walk", "_law_ends", "_law_draws_here"] : List Str).length := by
  obtain ⟨a, b, T, n, h, x, y, z, rfl, _⟩ := h; rfl
theorem pure_law_spoilt {K : PySem.W.Frag} (vs : List V) (H : Hp) (Q : VK) (E : XK) (h : sp_law_spoilt K vs H Q E) : t_law_spoilt K { nx := fun _ H' => Q .non H', rt := Q } (start N_law_spoilt vs) H := by
  obtain ⟨a, b, T, n, h, x, y, z, rfl, hT, htl, hn, hd, hh, hx, hy, hz, k⟩ := h
  unfold t_law_spoilt
  walk_at "S"
  refine ⟨_, _, rfl, hd.sq, rfl, _, _, rfl, _, _, rfl, _, _, rfl, _, _, rfl, rfl, ?_⟩
  walk_at "S"
  refine a_list hT fun p H1 e1 n1 h1 => ?_
  walk_at "S"
  refine s_I (cmod (show (n : Int) + 5 ≠ 0 by omega)) ?_
  walk_at "S"
  refine iteJ (fun σ H' => ∃ v : Int, σ = [some (.ref a), some (.int (n : Int)), some (.ref b), some (.int (h : Int)), some (.int (x : Int)), some (.int (y : Int)), some (.int (z : Int)), some (.ref p), some (.int v), none] ∧ Ex H H' ∧ IsI H' p T) ?_ ?_ ?_
  · intro N hN c
    walk_at "S"
    rw [show Int.fmod (z : Int) 2 = ((z % 2 : Nat) : Int) from fmod_nat z 2]
    refine s_I (cmulc2 (by omega)) ?_
    exact hN _ _ ⟨_, rfl, e1, h1⟩
  · intro N hN c
    walk_at "S"
    exact hN _ _ ⟨_, rfl, e1, h1⟩
  rintro σ H2 ⟨v, rfl, e2, h2⟩
  walk_at "S"
  refine iteJ (fun σ H' => ∃ ns : List Int, σ = [some (.ref a), some (.int (n : Int)), some (.ref b), some (.int (h : Int)), some (.int (x : Int)), some (.int (y : Int)), some (.int (z : Int)), some (.ref p), some (.int v), none] ∧ Ex H H' ∧ IsI H' p ns ∧ ns.length ≤ 2001) ?_ ?_ ?_
  · intro N hN c
    walk_at "S"
    refine ⟨tyl h2, ?_⟩
    walk_at "S"
    refine a_len h2 ?_
    walk_at "S"
    have e0 : ((T.length : Nat) : Int) + 1 = ((T.length + 1 : Nat) : Int) := by omega
    rw [e0]
    refine s_I (cmod (show ((T.length + 1 : Nat) : Int) ≠ 0 by omega)) ?_
    rw [fmod_nat]
    have := Nat.mod_lt x (show 0 < T.length + 1 by omega)
    walk_at "S"
    refine a_ins h2 (by omega) (by omega) ?_
    refine hN _ _ ⟨_, rfl, ex_mut e2 n1, upd_same, ?_⟩
    rw [List.length_append, List.length_append, List.length_take, List.length_drop]
    show min _ _ + 1 + _ ≤ _
    omega
  · intro N hN c
    walk_at "S"
    exact hN _ _ ⟨_, rfl, e2, h2, by omega⟩
  rintro σ H3 ⟨ns, rfl, e3, h3, hl3⟩
  walk_at "S"
  refine a_len h3 ?_
  walk_at "S"
  refine iteEq (fun c => ?_) (fun c => ?_)
  · walk_at "S"
    exact k H3 p ns e3 n1 h3 (by omega)
  walk_at "S"
  refine a_len h3 ?_
  refine s_I (cmod (show ((ns.length : Nat) : Int) ≠ 0 by omega)) ?_
  rw [fmod_nat]
  walk_at "S"
  refine a_len h3 ?_
  refine s_I (cmod (show ((ns.length : Nat) : Int) ≠ 0 by omega)) ?_
  rw [fmod_nat]
  have hx1 := Nat.mod_lt x (show 0 < ns.length by omega)
  have hy1 := Nat.mod_lt y (show 0 < ns.length by omega)
  generalize x % ns.length = xx at hx1 ⊢
  generalize y % ns.length = yy at hy1 ⊢
  walk_at "S"
  refine iteJ (fun σ H' => ∃ ns : List Int, σ = [some (.ref a), some (.int (n : Int)), some (.ref b), some (.int (h : Int)), some (.int (xx : Int)), some (.int (yy : Int)), some (.int (z : Int)), some (.ref p), some (.int v), none] ∧ Ex H H' ∧ IsI H' p ns ∧ ns.length ≤ 2001 ∧ xx < ns.length ∧ yy < ns.length) ?_ ?_ ?_
  · intro N hN c
    walk_at "S"
    refine a_set h3 hx1 ?_
    exact hN _ _ ⟨_, rfl, ex_mut e3 n1, upd_same, by rw [List.length_set]; exact hl3, by rw [List.length_set]; exact hx1, by rw [List.length_set]; exact hy1⟩
  · intro N hN c
    walk_at "S"
    exact hN _ _ ⟨_, rfl, e3, h3, hl3, hx1, hy1⟩
  clear hx1 hy1 h3 hl3 e3 c
  clear ns
  rintro σ H4 ⟨ns, rfl, e4, h4, hl4, hx1, hy1⟩
  walk_at "S"
  refine iteJ (fun σ H' => ∃ ns : List Int, σ = [some (.ref a), some (.int (n : Int)), some (.ref b), some (.int (h : Int)), some (.int (xx : Int)), some (.int (yy : Int)), some (.int (z : Int)), some (.ref p), some (.int v), none] ∧ Ex H H' ∧ IsI H' p ns ∧ ns.length ≤ 2001 ∧ ((h : Int) = 4 → xx < ns.length ∧ yy < ns.length)) ?_ ?_ ?_
  · intro N hN c
    have c := int_of_dec c
    walk_at "S"
    refine ⟨tyl h4, ?_⟩
    walk_at "S"
    refine a_popAt h4 (List.getElem?_eq_getElem hx1) (by omega) ?_
    refine hN _ _ ⟨_, rfl, ex_mut e4 n1, upd_same, ?_, fun q => by omega⟩
    have := List.length_eraseIdx_le ns xx
    omega
  · intro N hN c
    walk_at "S"
    exact hN _ _ ⟨_, rfl, e4, h4, hl4, fun _ => ⟨hx1, hy1⟩⟩
  clear hx1 hy1 h4 hl4 e4
  clear ns
  rintro σ H5 ⟨ns, rfl, e5, h5, hl5, hxy⟩
  walk_at "S"
  refine iteJ (fun σ H' => ∃ (ns : List Int) (y9 : Option V), σ = [some (.ref a), some (.int (n : Int)), some (.ref b), some (.int (h : Int)), some (.int (xx : Int)), some (.int (yy : Int)), some (.int (z : Int)), some (.ref p), some (.int v), y9] ∧ Ex H H' ∧ IsI H' p ns ∧ ns.length ≤ 2001) ?_ ?_ ?_
  · intro N hN c
    obtain ⟨hx1, hy1⟩ := hxy (int_of_dec c)
    walk_at "S"
    refine a_ix h5 (List.getElem?_eq_getElem hx1) ?_
    walk_at "S"
    refine a_ix h5 (List.getElem?_eq_getElem hy1) ?_
    walk_at "S"
    refine a_set h5 hx1 ?_
    walk_at "S"
    refine a_set (ns := ns.set xx ns[yy]) upd_same (by rw [List.length_set]; exact hy1) ?_
    exact hN _ _ ⟨_, _, rfl, ex_mut (ex_mut e5 n1) n1, upd_same, by rw [List.length_set, List.length_set]; exact hl5⟩
  · intro N hN c
    walk_at "S"
    exact hN _ _ ⟨_, _, rfl, e5, h5, hl5⟩
  clear hxy h5 hl5 e5
  clear ns
  rintro σ H6 ⟨ns, y9, rfl, e6, h6, hl6⟩
  walk_at "S"
  refine iteJ (fun σ H' => ∃ (ns : List Int) (p : Addr), σ = [some (.ref a), some (.int (n : Int)), some (.ref b), some (.int (h : Int)), some (.int (xx : Int)), some (.int (yy : Int)), some (.int (z : Int)), some (.ref p), some (.int v), y9] ∧ Ex H H' ∧ H p = none ∧ IsI H' p ns ∧ ns.length ≤ 2001) ?_ ?_ ?_
  · intro N hN c
    walk_at "S"
    refine a_rev h6 fun q H7 e7 n7 h7 => ?_
    exact hN _ _ ⟨_, _, rfl, e6.trans e7, ex_back e6 n7, h7, by rw [List.length_reverse]; exact hl6⟩
  · intro N hN c
    walk_at "S"
    exact hN _ _ ⟨_, _, rfl, e6, n1, h6, hl6⟩
  clear h6 hl6 e6 n1 h2 h1
  clear ns p
  rintro σ H7 ⟨ns, p, rfl, e7, n7, h7, hl7⟩
  walk_at "S"
  refine iteJ (fun σ H' => ∃ (ns : List Int) (p : Addr), σ = [some (.ref a), some (.int (n : Int)), some (.ref b), some (.int (h : Int)), some (.int (xx : Int)), some (.int (yy : Int)), some (.int (z : Int)), some (.ref p), some (.int v), y9] ∧ Ex H H' ∧ H p = none ∧ IsI H' p ns ∧ ns.length ≤ 2001) ?_ ?_ ?_
  · intro N hN c
    walk_at "S"
    refine a_from h7 fun q1 H8 e8 n8 h8 => ?_
    walk_at "S"
    refine a_to (h7.ex e8) fun q2 H9 e9 n9 h9 => ?_
    have hln : (ns.drop xx).length + (ns.take xx).length = ns.length := by rw [List.length_drop, List.length_take]; omega
    refine a_cat (h8.ex e9) h9 (by omega) fun q3 H10 e10 n10 h10 => ?_
    have e79 := (e7.trans e8).trans e9
    exact hN _ _ ⟨_, _, rfl, e79.trans e10, ex_back e79 n10, h10, by rw [List.length_append]; omega⟩
  · intro N hN c
    walk_at "S"
    exact hN _ _ ⟨_, _, rfl, e7, n7, h7, hl7⟩
  clear h7 hl7 e7 n7
  clear ns p
  rintro σ H8 ⟨ns, p, rfl, e8, n8, h8, hl8⟩
  walk_at "S"
  refine iteJ (fun σ H' => ∃ (ns : List Int) (p : Addr), σ = [some (.ref a), some (.int (n : Int)), some (.ref b), some (.int (h : Int)), some (.int (xx : Int)), some (.int (yy : Int)), some (.int (z : Int)), some (.ref p), some (.int v), y9] ∧ Ex H H' ∧ H p = none ∧ IsI H' p ns ∧ ns.length ≤ 2001) ?_ ?_ ?_
  · intro N hN c
    walk_at "S"
    refine ⟨p, ns, rfl, h8, by omega, fun H9 q ms e9 n9 h9 hms => ?_⟩
    subst hms
    exact hN _ _ ⟨_, _, rfl, e8.trans e9, ex_back e8 n9, h9, by rw [List.length_map, List.length_reverse]; exact hl8⟩
  · intro N hN c
    walk_at "S"
    exact hN _ _ ⟨_, _, rfl, e8, n8, h8, hl8⟩
  clear h8 hl8 e8 n8
  clear ns p
  rintro σ H9 ⟨ns, p, rfl, e9, n9, h9, hl9⟩
  walk_at "S"
  exact k H9 p ns e9 n9 h9 (by omega)

section
variable {P : Program} {w : World} {K : PySem.W.Frag} {mg : Str → Option Value} {base : Heap}
theorem sc_law_spoilt : FnScope N_law_spoilt ["_law_walk", "_law_ends", "_law_draws_here"] (defScope s_law_spoilt) := ⟨rfl, rfl, rfl, by decide +kernel, rfl, by decide +kernel, by decide +kernel⟩
theorem cal_law_spoilt (B : Blt mg) (D : Dfn K mg "_law_spoilt" s_law_spoilt ["_law_walk", "_law_ends", "_law_draws_here"]) (C_law_about : Cal P w K mg base CX0 2 "_law_about" ["_law_walk"] (sp_law_about K)) : Cal P w K mg base CX0 3 "_law_spoilt" ["_law_walk", "_law_ends", "_law_draws_here"] (sp_law_spoilt K) := by
  refine cal_mk D fun f fd F => F.ok sc_law_spoilt (fun vs H Q E h => len_law_spoilt h) (fun cdv A outer s H vs Q E hr h => ⟨t_law_spoilt K, ?_, pure_law_spoilt vs H Q E h⟩)
  have hu := hu_of hr
  exact (pss_cons (ps_asg (pv 2) (pg_unl rfl (pgs_cons (pg_name (i := 3) sc_law_spoilt.nd rfl (Or.inl rfl)) (pgs_cons (pg_name (i := 4) sc_law_spoilt.nd rfl (Or.inl rfl)) (pgs_cons (pg_name (i := 5) sc_law_spoilt.nd rfl (Or.inl rfl)) (pgs_cons (pg_name (i := 6) sc_law_spoilt.nd rfl (Or.inl rfl)) pgs_nil))))))
        (pss_cons (ps_set (i := 7) sc_law_spoilt.nd rfl (Or.inl rfl) (pe_callTy call_list_of (by rfl) B.list_ (by decide +kernel) (pa_cons (pv 0) pa_nil)))
        (pss_cons (ps_set (i := 8) sc_law_spoilt.nd rfl (Or.inl rfl) (pe_op op_sub (pe_op op_modN (pv 6) (pe_op op_add (pv 1) pe_int)) pe_int))
        (pss_cons (ps_if (pt_cmpR op_gt (pv 6) pe_int (nomark _)) (pss_one (ps_set (i := 8) sc_law_spoilt.nd rfl (Or.inl rfl) (pe_op op_mul (pe_op op_add (pe_op op_pow pe_int pe_int) (pv 6)) (pe_op op_sub pe_int (pe_op op_mul pe_int (pe_op op_modN (pv 6) pe_int)))))) pss_nil)
        (pss_cons (ps_if (pt_cmpR op_eq (pv 3) pe_int (nomark _)) (pss_one (ps_expr (pe_bm PySem.F.plainAttrs_list PySem.F.slot_list_insert PySem.F.type_list_insert mt_insert (pv 7) (pa_cons (pe_op op_modN (pv 4) (pe_op op_add (pe_callB call_len_seq (by rfl) B.len_ PySem.boot_len (pa_cons (pv 7) pa_nil)) pe_int)) (pa_cons (pv 8) pa_nil))))) pss_nil)
        (pss_cons (ps_if (pt_cmpR op_eq (pe_callB call_len_seq (by rfl) B.len_ PySem.boot_len (pa_cons (pv 7) pa_nil)) pe_int (nomark _)) (pss_one (ps_ret (pv 7))) pss_nil)
        (pss_cons (ps_set (i := 4) sc_law_spoilt.nd rfl (Or.inl rfl) (pe_op op_modN (pv 4) (pe_callB call_len_seq (by rfl) B.len_ PySem.boot_len (pa_cons (pv 7) pa_nil))))
        (pss_cons (ps_set (i := 5) sc_law_spoilt.nd rfl (Or.inl rfl) (pe_op op_modN (pv 5) (pe_callB call_len_seq (by rfl) B.len_ PySem.boot_len (pa_cons (pv 7) pa_nil))))
        (pss_cons (ps_if (pt_cmpR op_eq (pv 3) pe_int (nomark _)) (pss_one (ps_asg (pv 8) (pg_sub (pv 7) (pv 4) set_list))) pss_nil)
        (pss_cons (ps_if (pt_cmpR op_eq (pv 3) pe_int (nomark _)) (pss_one (ps_expr (pe_bm PySem.F.plainAttrs_list PySem.F.slot_list_pop PySem.F.type_list_pop mt_popAt (pv 7) (pa_cons (pv 4) pa_nil)))) pss_nil)
        (pss_cons (ps_if (pt_cmpR op_eq (pv 3) pe_int (nomark _)) (pss_cons (ps_set (i := 9) sc_law_spoilt.nd rfl (Or.inl rfl) (pe_ix ix_list (pv 7) (pv 4) (fun _ _ => rfl)))
          (pss_cons (ps_asg (pe_ix ix_list (pv 7) (pv 5) (fun _ _ => rfl)) (pg_sub (pv 7) (pv 4) set_list))
          (pss_one (ps_asg (pv 9) (pg_sub (pv 7) (pv 5) set_list))))) pss_nil)
        (pss_cons (ps_if (pt_cmpR op_eq (pv 3) pe_int (nomark _)) (pss_one (ps_set (i := 7) sc_law_spoilt.nd rfl (Or.inl rfl) (pe_revL (pv 7)))) pss_nil)
        (pss_cons (ps_if (pt_cmpR op_eq (pv 3) pe_int (nomark _)) (pss_one (ps_set (i := 7) sc_law_spoilt.nd rfl (Or.inl rfl) (pe_op op_cat (pe_slice sl_list (pv 7) (po_some (pv 4)) po_none) (pe_slice sl_list (pv 7) po_none (po_some (pv 4)))))) pss_nil)
        (pss_cons (ps_if (pt_cmpR op_eq (pv 3) pe_int (nomark _)) (pss_one (ps_set (i := 7) sc_law_spoilt.nd rfl (Or.inl rfl) (pe_cal C_law_about hr (by decide) (by rfl) (pa_cons (pv 7) pa_nil)))) pss_nil)
        (pss_one (ps_ret (pv 7)))))))))))))))))
end

abbrev s_law_is_walk : Stmt := top 44
abbrev N_law_is_walk : List Str := ["_law_drawing_here", "_law_ends", "_law_seats_here", "_law_end", "_law_k"]
-- slots: 0 drawing_here, 1 ends, 2 seats_here, 3 end, 4 k
def t_law_is_walk (K : PySem.W.Frag) : TS :=
  (tSeq (tAsg (tCal (sp_law_seats K) (tCons (tVar 0) tNil)) (gName 2))
        (tSeq (tFor (iList K (tVar 1)) (gName 3) (tIfS (tB (tDNotIn (tVar 3) (tVar 2))) (tRet (tC (.bl false))) tNext))
        (tSeq (tFor (iRng1 (tCons (tCB (bLen K) (tCons (tVar 1) tNil)) tNil)) (gName 4) (tIfS (tTest (tOp rNe (tDGet (tVar 2) (tCal (sp_law_mate K) (tCons (tOp (rIxL K) (tVar 1) (tOp rSub (tVar 4) (tC (.int 1)))) tNil))) (tDGet (tVar 2) (tOp (rIxL K) (tVar 1) (tVar 4))))) (tRet (tC (.bl false))) tNext))
        (tRet (tC (.bl true))))))
theorem len_law_is_walk {K : PySem.W.Frag} {vs : List V} {H : Hp} {Q : VK} {E : XK} (h : sp_law_is_walk K vs H Q E) : vs.length = (["_law_drawing_here", "_law_ends"] : List Str).length := by
  obtain ⟨a, b, D, m, T, rfl, _⟩ := h; rfl
theorem lprv_mem {T : List Int} {i : Nat} (h : i < T.length) : prv T i ∈ T := by
  unfold prv
  have hl : (if i = 0 then T.length - 1 else i - 1) < T.length := by split <;> omega
  rw [List.getD_eq_getElem?_getD, List.getElem?_eq_getElem hl]
  exact List.getElem_mem hl
theorem in_flat {D : Dr} {m : Nat} (hv : Valid D m) {e : Int} : e ∈ D.flatten ↔ 0 ≤ e ∧ e < 2 * m := ⟨hv.rg e, fun h => hv.mem h.1 h.2⟩
theorem seat_get {D : Dr} {m : Nat} {f : Int → Option Int} {e : Int} (hv : Valid D m) (hf : ∀ z, f z = if z ∈ D.flatten then some ((seat D z : Nat) : Int) else none) (h0 : 0 ≤ e) (h1 : e < 2 * m) : f e = some ((seat D e : Nat) : Int) := by
  rw [hf, if_pos (hv.mem h0 h1)]
theorem pure_law_is_walk {K : PySem.W.Frag} (vs : List V) (H : Hp) (Q : VK) (E : XK) (h : sp_law_is_walk K vs H Q E) : t_law_is_walk K { nx := fun _ H' => Q .non H', rt := Q } (start N_law_is_walk vs) H := by
  obtain ⟨a, b, D, m, T, rfl, hD, hv, hm, hl, hT, htl, k⟩ := h
  unfold t_law_is_walk
  walk_at "S"
  refine ⟨a, D, m, rfl, hD, hv, hm, hl, fun H1 s f e1 _ hs hf => ?_⟩
  walk_at "S"
  refine forI hT (fun i σ H' => ∃ y, σ = [some (.ref a), some (.ref b), some (.ref s), y, none] ∧ Ex H H' ∧ IsM H' s f ∧ ∀ t z, t < i → T[t]? = some z → 0 ≤ z ∧ z < 2 * m) ⟨_, rfl, e1, hs, fun t z ht => absurd ht (Nat.not_lt_zero t)⟩ (fun i σ H' ⟨_, _, e, _⟩ => e) ?_ ?_
  · rintro i z σ H2 hz e2 ⟨y, rfl, _, hs2, hr⟩
    walk_at "S"
    refine m_nin hs2 ?_
    walk_at "S"
    rw [hf z]
    refine iteBn (fun c => ?_) (fun c => ?_)
    · walk_at "S"
      refine k H2 false e2 (ffalse fun q => ?_)
      rw [if_pos ((in_flat hv).mpr (q.rg z (List.mem_of_getElem? hz)))] at c
      cases c
    · walk_at "S"
      refine ⟨_, rfl, e2, hs2, fun t w ht hw => ?_⟩
      by_cases htt : t = i
      · subst htt
        rw [hz] at hw
        cases hw
        by_cases hzm : z ∈ D.flatten
        · exact hv.rg z hzm
        · rw [if_neg hzm] at c; cases c
      · exact hr t w (by omega) hw
  · rintro σ H2 ⟨y, rfl, e2, hs2, hr⟩
    have hrg : ∀ z ∈ T, 0 ≤ z ∧ z < 2 * (m : Int) := fun z hz => by
      obtain ⟨t, ht⟩ := List.mem_iff_getElem?.mp hz
      exact hr t z (List.getElem?_eq_some_iff.mp ht).1 ht
    walk_at "S"
    refine a_len (hT.ex e2) ?_
    walk_at "S"
    refine forR (n := T.length) (by omega) (fun i σ H' => ∃ y z, σ = [some (.ref a), some (.ref b), some (.ref s), y, z] ∧ Ex H H' ∧ IsM H' s f ∧ ∀ t, t < i → seat D (mt (prv T t)) = seat D (T.getD t 0)) ⟨_, _, rfl, e2, hs2, fun t ht => absurd ht (Nat.not_lt_zero t)⟩ ?_ ?_
    · rintro i σ H3 hi ⟨y, z', rfl, e3, hs3, hw⟩
      have hz : T[i]? = some T[i] := List.getElem?_eq_getElem hi
      have hp := hrg _ (lprv_mem hi)
      have hzz := hrg _ (List.mem_of_getElem? hz)
      walk_at "S"
      refine a_prev (hT.ex e3) hi ?_
      walk_at "S"
      refine m_get hs3 (seat_get hv hf (mt_lo hp.1) (mt_hi hp.2)) ?_
      walk_at "S"
      refine a_ix (hT.ex e3) hz ?_
      walk_at "S"
      refine m_get hs3 (seat_get hv hf hzz.1 hzz.2) ?_
      walk_at "S"
      refine iteNe (fun c => ?_) (fun c => ?_)
      · walk_at "S"
        refine k H3 false e3 (ffalse fun q => ?_)
        have := q.st i hi
        rw [getD_of hz] at this
        exact absurd (congrArg (fun n : Nat => (n : Int)) this) c
      · walk_at "S"
        refine ⟨_, _, rfl, e3, hs3, fun t ht => ?_⟩
        by_cases htt : t = i
        · subst htt
          rw [getD_of hz]
          omega
        · exact hw t (by omega)
    · rintro σ H3 ⟨y, z', rfl, e3, hs3, hw⟩
      walk_at "S"
      exact k H3 true e3 (ftrue ⟨hrg, fun i hi => hw i hi⟩)

section
variable {P : Program} {w : World} {K : PySem.W.Frag} {mg : Str → Option Value} {base : Heap}
theorem sc_law_is_walk : FnScope N_law_is_walk ["_law_drawing_here", "_law_ends"] (defScope s_law_is_walk) := ⟨rfl, rfl, rfl, by decide +kernel, rfl, by decide +kernel, by decide +kernel⟩
theorem cal_law_is_walk (B : Blt mg) (D : Dfn K mg "_law_is_walk" s_law_is_walk ["_law_drawing_here", "_law_ends"]) (C_law_seats : Cal P w K mg base CX0 1 "_law_seats" ["_law_drawing_here"] (sp_law_seats K)) (C_law_mate : Cal P w K mg base CX0 1 "_law_mate" ["_law_end"] (sp_law_mate K)) : Cal P w K mg base CX0 2 "_law_is_walk" ["_law_drawing_here", "_law_ends"] (sp_law_is_walk K) := by
  refine cal_mk D fun f fd F => F.ok sc_law_is_walk (fun vs H Q E h => len_law_is_walk h) (fun cdv A outer s H vs Q E hr h => ⟨t_law_is_walk K, ?_, pure_law_is_walk vs H Q E h⟩)
  have hu := hu_of hr
  exact (pss_cons (ps_set (i := 2) sc_law_is_walk.nd rfl (Or.inl rfl) (pe_cal C_law_seats hr (by decide) (by rfl) (pa_cons (pv 0) pa_nil)))
        (pss_cons (ps_for PassesOwn.never rfl (pi_list (pv 1)) (pg_name (i := 3) sc_law_is_walk.nd rfl (Or.inl rfl)) (pss_one (ps_if (pt_cmp (pc_dnotin hu (pv 3) (pv 2))) (pss_one (ps_ret pe_bl)) pss_nil)))
        (pss_cons (ps_for PassesOwn.never rfl (pi_range1 (by rfl) B.range_ (pa_cons (pe_callB call_len_seq (by rfl) B.len_ PySem.boot_len (pa_cons (pv 1) pa_nil)) pa_nil)) (pg_name (i := 4) sc_law_is_walk.nd rfl (Or.inl rfl)) (pss_one (ps_if (pt_cmpR op_ne (pe_dget hu (pv 2) (pe_cal C_law_mate hr (by decide) (by rfl) (pa_cons (pe_ix ix_list (pv 1) (pe_op op_sub (pv 4) pe_int) (fun _ _ => rfl)) pa_nil)) (fun _ _ => rfl)) (pe_dget hu (pv 2) (pe_ix ix_list (pv 1) (pv 4) (fun _ _ => rfl)) (fun _ _ => rfl)) (nomark _)) (pss_one (ps_ret pe_bl)) pss_nil)))
        (pss_one (ps_ret pe_bl)))))
end

abbrev s_law_is_turn : Stmt := top 45
abbrev N_law_is_turn : List Str := ["_law_drawing_here", "_law_ends", "_law_seats_here", "_law_end"]
-- slots: 0 drawing_here, 1 ends, 2 seats_here, 3 end
def t_law_is_turn (K : PySem.W.Frag) : TS :=
  (tSeq (tIfS (tOr (tTest (tOp rEq (tCB (bLen K) (tCons (tVar 1) tNil)) (tC (.int 0)))) (tNot (tB (tCal (sp_law_is_walk K) (tCons (tVar 0) (tCons (tVar 1) tNil)))))) (tRet (tC (.bl false))) tNext)
        (tSeq (tAsg (tCal (sp_law_seats K) (tCons (tVar 0) tNil)) (gName 2))
        (tSeq (tIfS (tTest (tOp rNe (tLenSetN K (tLc (iList K (tVar 1)) (gName 3) tYes (tDGet (tVar 2) (tVar 3)) [3])) (tCB (bLen K) (tCons (tVar 1) tNil)))) (tRet (tC (.bl false))) tNext)
        (tRet (tOp rEq (tLenSetN K (tLc (iList K (tVar 1)) (gName 3) tYes (tOp rDiv (tVar 3) (tC (.int 2))) [3])) (tCB (bLen K) (tCons (tVar 1) tNil)))))))
theorem len_law_is_turn {K : PySem.W.Frag} {vs : List V} {H : Hp} {Q : VK} {E : XK} (h : sp_law_is_turn K vs H Q E) : vs.length = (["_law_drawing_here", "_law_ends"] : List Str).length := by
  obtain ⟨a, b, D, m, T, rfl, _⟩ := h; rfl
theorem seat_get' {D : Dr} {m : Nat} {f : Int → Option Int} {e : Int} (hv : Valid D m) (hf : ∀ z, f z = if z ∈ D.flatten then some ((seat D z : Nat) : Int) else none) (h0 : 0 ≤ e) (h1 : e < 2 * m) : f e = some ((seat D e : Nat) : Int) := by
  rw [hf, if_pos (hv.mem h0 h1)]
theorem nodup_casts {l : List Int} {s : Int → Nat} : (l.map fun e => ((s e : Nat) : Int)).Nodup ↔ (l.map s).Nodup := by
  rw [List.nodup_iff_pairwise_ne, List.nodup_iff_pairwise_ne, List.pairwise_map, List.pairwise_map]
  exact ⟨fun h => h.imp fun {a b} q e => q (congrArg _ e), fun h => h.imp fun {a b} q e => q (by omega)⟩
theorem pure_law_is_turn {K : PySem.W.Frag} (vs : List V) (H : Hp) (Q : VK) (E : XK) (h : sp_law_is_turn K vs H Q E) : t_law_is_turn K { nx := fun _ H' => Q .non H', rt := Q } (start N_law_is_turn vs) H := by
  obtain ⟨a, b, D, m, T, rfl, hD, hv, hm, hl, hT, htl, k⟩ := h
  unfold t_law_is_turn
  walk_at "S"
  refine a_len hT ?_
  walk_at "S"
  refine iteEq (fun c => ?_) (fun c => ?_)
  · rw [if_pos rfl]
    walk_at "S"
    exact k H false (Ex.refl H) (ffalse fun q => q.ne (List.length_eq_zero_iff.mp (by omega)))
  walk_at "S"
  refine ⟨a, b, D, m, T, rfl, hD, hv, hm, hl, hT, htl, fun H1 c1 e1 hc1 => ?_⟩
  walk_at "S"
  refine iteBn (fun c2 => ?_) (fun c2 => ?_)
  · walk_at "S"
    refine k H1 false e1 (ffalse fun q => ?_)
    rw [hc1.mpr q.wk] at c2
    cases c2
  have hw : IsWalk D m T := hc1.mp c2
  walk_at "S"
  refine ⟨a, D, m, rfl, hD.ex' e1, hv, hm, hl, fun H2 s f e2 _ hs hf => ?_⟩
  walk_at "S"
  refine lcI1 (hT.ex (e1.trans e2)) (by omega) (fun e => ((seat D e : Nat) : Int)) (fun z hz H3 e3 R r => ?_) fun q1 H3 e3 n3 h3 => ?_
  · have hzz := hw.rg z hz
    walk_at "S"
    exact m_get (hs.ex' e3) (seat_get' hv hf hzz.1 hzz.2) (r H3 (Ex.refl H3))
  have e03 := (e1.trans e2).trans e3
  refine a_lenSet h3 (by rw [List.length_map]; exact htl) ?_
  walk_at "S"
  refine a_len (hT.ex e03) ?_
  walk_at "S"
  have nem : T ≠ [] := by rintro rfl; exact c rfl
  refine iteNe (fun c3 => ?_) (fun c3 => ?_)
  · walk_at "S"
    refine k H3 false e03 (ffalse fun q => c3 ?_)
    have := (ded_iff _).mpr (nodup_casts.mpr q.ps)
    rw [List.length_map] at this
    rw [this]
  have hps : (T.map (seat D)).Nodup := by
    refine nodup_casts.mp ((ded_iff _).mp ?_)
    rw [List.length_map]
    omega
  walk_at "S"
  refine lcI1 (hT.ex e03) (by omega) (· / 2) (fun z hz H4 e4 R r => ?_) fun q2 H4 e4 n4 h4 => ?_
  · walk_at "S"
    rw [fdiv2]
    exact r H4 (Ex.refl H4)
  have e04 := e03.trans e4
  refine a_lenSet h4 (by rw [List.length_map]; exact htl) ?_
  walk_at "S"
  refine a_len (hT.ex e04) ?_
  walk_at "S"
  refine k H4 _ e04 ?_
  have hd := ded_iff (T.map (· / 2))
  rw [List.length_map] at hd
  constructor
  · intro q
    have q := V.int.inj (of_decide_eq_true q)
    exact ⟨nem, hw, hps, hd.mp (by omega)⟩
  · intro q
    have := hd.mpr q.ts
    exact decide_eq_true (by rw [this])

section
variable {P : Program} {w : World} {K : PySem.W.Frag} {mg : Str → Option Value} {base : Heap}
theorem sc_law_is_turn : FnScope N_law_is_turn ["_law_drawing_here", "_law_ends"] (defScope s_law_is_turn) := ⟨rfl, rfl, rfl, by decide +kernel, rfl, by decide +kernel, by decide +kernel⟩
theorem cal_law_is_turn (B : Blt mg) (D : Dfn K mg "_law_is_turn" s_law_is_turn ["_law_drawing_here", "_law_ends"]) (C_law_is_walk : Cal P w K mg base CX0 2 "_law_is_walk" ["_law_drawing_here", "_law_ends"] (sp_law_is_walk K)) (C_law_seats : Cal P w K mg base CX0 1 "_law_seats" ["_law_drawing_here"] (sp_law_seats K)) : Cal P w K mg base CX0 3 "_law_is_turn" ["_law_drawing_here", "_law_ends"] (sp_law_is_turn K) := by
  refine cal_mk D fun f fd F => F.ok sc_law_is_turn (fun vs H Q E h => len_law_is_turn h) (fun cdv A outer s H vs Q E hr h => ⟨t_law_is_turn K, ?_, pure_law_is_turn vs H Q E h⟩)
  have hu := hu_of hr
  exact (pss_cons (ps_if (PW.pt (pw_or (pt_cmpR op_eq (pe_callB call_len_seq (by rfl) B.len_ PySem.boot_len (pa_cons (pv 1) pa_nil)) pe_int (nomark _)) (pw_or1 (pt_not (pt_val (pe_cal C_law_is_walk hr (by decide) (by rfl) (pa_cons (pv 0) (pa_cons (pv 1) pa_nil)))))))) (pss_one (ps_ret pe_bl)) pss_nil)
        (pss_cons (ps_set (i := 2) sc_law_is_turn.nd rfl (Or.inr rfl) (pe_cal C_law_seats hr (by decide) (by rfl) (pa_cons (pv 0) pa_nil)))
        (pss_cons (ps_if (pt_cmpR op_ne (pe_lenSetN (by rfl) B.len_ (by rfl) B.set_ (pe_lc (own := [("_law_end", 3)]) (g := gName 3) rfl sc_law_is_turn.nd (pi_list (pv 1)) (blkOk_by (own := [("_law_end", 3)]) (N := N_law_is_turn) (sc := (defScope s_law_is_turn)) (by decide +kernel)) (fun _ _ _ _ _ => pg_name (i := 3) sc_law_is_turn.nd rfl (Or.inl rfl)) (fun _ _ _ _ _ => pts_nil) (fun _ _ _ _ _ => (pe_dget hu (pv 2) (pv 3) (fun _ _ => rfl))))) (pe_callB call_len_seq (by rfl) B.len_ PySem.boot_len (pa_cons (pv 1) pa_nil)) (nomark _)) (pss_one (ps_ret pe_bl)) pss_nil)
        (pss_one (ps_ret (pe_cmpR op_eq (pe_lenSetN (by rfl) B.len_ (by rfl) B.set_ (pe_lc (own := [("_law_end", 3)]) (g := gName 3) rfl sc_law_is_turn.nd (pi_list (pv 1)) (blkOk_by (own := [("_law_end", 3)]) (N := N_law_is_turn) (sc := (defScope s_law_is_turn)) (by decide +kernel)) (fun _ _ _ _ _ => pg_name (i := 3) sc_law_is_turn.nd rfl (Or.inl rfl)) (fun _ _ _ _ _ => pts_nil) (fun _ _ _ _ _ => (pe_op op_fdivN (pv 3) pe_int)))) (pe_callB call_len_seq (by rfl) B.len_ PySem.boot_len (pa_cons (pv 1) pa_nil)) (nomark _)))))))
end

abbrev s_law_lefts : Stmt := top 46
abbrev N_law_lefts : List Str := ["_law_drawing_here", "_law_walk", "_law_behind_here", "_law_counts", "_law_k", "_law_comes", "_law_end"]
-- slots: 0 drawing_here, 1 walk, 2 behind_here, 3 counts, 4 k, 5 comes, 6 end
def t_law_lefts (K : PySem.W.Frag) : TS :=
  (tSeq (tAsg (tCal (sp_law_behind K) (tCons (tVar 0) tNil)) (gName 2))
        (tSeq (tAsg (tOp rRep (tLst (tCons (tC (.int 0)) tNil)) (tCB bLenD (tCons (tVar 2) tNil))) (gName 3))
        (tSeq (tFor (iRng1 (tCons (tCB (bLen K) (tCons (tVar 1) tNil)) tNil)) (gName 4) (tSeq (tAsg (tCal (sp_law_mate K) (tCons (tOp (rIxL K) (tVar 1) (tOp rSub (tVar 4) (tC (.int 1)))) tNil)) (gName 5))
          (tSeq (tAsg (tDGet (tVar 2) (tVar 5)) (gName 6))
          (tWhile (tAnd (tTest (tOp rNe (tVar 6) (tOp (rIxL K) (tVar 1) (tVar 4)))) (tTest (tOp rNe (tVar 6) (tVar 5)))) (tSeq (tAsg (tOp rAdd (tOp (rIxL K) (tVar 3) (tVar 6)) (tC (.int 1))) (gSub (tVar 3) (tVar 6) rSetL))
            (tAsg (tDGet (tVar 2) (tVar 6)) (gName 6)))))))
        (tRet (tVar 3)))))
theorem len_law_lefts {K : PySem.W.Frag} {vs : List V} {H : Hp} {Q : VK} {E : XK} (h : sp_law_lefts K vs H Q E) : vs.length = (["_law_drawing_here", "_law_walk"] : List Str).length := by
  obtain ⟨a, b, D, m, T, rfl, _⟩ := h; rfl
theorem ring_ex {D : Dr} {m : Nat} {T : List Int} (v : Valid D m) (h : IsTurn D m T) {i : Nat} (hi : i < T.length) : ∃ L R, Ring D T i L R := by
  have h1 := turn_come v h hi
  have h2 : T.getD i 0 ∈ D.getD (seat D (T.getD i 0)) [] := mem_seat (h.inD v (get_in hi))
  have hne := turn_ne h hi
  obtain ⟨u, w, huw⟩ := List.append_of_mem h1
  have h3 : T.getD i 0 ∈ w ++ u := by
    rw [huw] at h2
    rcases List.mem_append.mp h2 with q | q
    · exact List.mem_append_right _ q
    · rcases List.mem_cons.mp q with q | q
      · exact absurd q.symm hne
      · exact List.mem_append_left _ q
  obtain ⟨L, R, hLR⟩ := List.append_of_mem h3
  refine ⟨L, R, hi, u, mt (prv T i) :: w, huw, ?_⟩
  rw [← hLR]; rfl
theorem cut_ex {D : Dr} {m : Nat} {T : List Int} (v : Valid D m) (h : IsTurn D m T) : ∃ C L R, Cut D C T m L R := by
  have key : ∀ i, i ≤ T.length → ∃ C, CutTo D T m i C := by
    intro i
    induction i with
    | zero => exact fun _ => ⟨D, cut_start⟩
    | succ i ih =>
      intro hi
      obtain ⟨C, hC⟩ := ih (by omega)
      obtain ⟨L, R, ri⟩ := ring_ex v h (i := i) (by omega)
      exact ⟨_, cut_step v h hC ri (List.Perm.refl _) (List.Perm.refl _)⟩
  obtain ⟨C, hC⟩ := key T.length (Nat.le_refl _)
  obtain ⟨L, R, c⟩ := cut_mk v h (cut_done hC)
  exact ⟨C, L, R, c⟩
/-- counts so far -/
def CTo (ns : List Int) (m : Nat) (S : List Int) : Prop := ns.length = 2 * m ∧ ∀ e : Nat, e < 2 * m → ns[e]? = some (if (e : Int) ∈ S then 1 else 0)
theorem CTo.get {ns S : List Int} {m : Nat} {x : Int} (h : CTo ns m S) (h0 : 0 ≤ x) (h1 : x < 2 * m) : ns[x.toNat]? = some (if x ∈ S then 1 else 0) := by
  have := h.2 x.toNat (by omega)
  rw [Int.toNat_of_nonneg h0] at this
  exact this
theorem CTo.step {ns S : List Int} {m : Nat} {x : Int} (h : CTo ns m S) (h0 : 0 ≤ x) (h1 : x < 2 * m) : CTo (ns.set x.toNat 1) m (S ++ [x]) := by
  refine ⟨by rw [List.length_set]; exact h.1, fun e he => ?_⟩
  by_cases q : e = x.toNat
  · subst q
    rw [List.getElem?_set_self (by rw [h.1]; exact he), Int.toNat_of_nonneg h0, if_pos (List.mem_append_right _ (List.mem_singleton.mpr rfl))]
  · rw [List.getElem?_set_ne (fun t => q t.symm), h.2 e he]
    have : ((e : Int) ∈ S ++ [x]) ↔ ((e : Int) ∈ S) := by
      rw [List.mem_append, List.mem_singleton]
      exact ⟨fun t => t.elim id fun t => absurd (by omega) q, .inl⟩
    by_cases w : (e : Int) ∈ S
    · rw [if_pos w, if_pos (this.mpr w)]
    · rw [if_neg w, if_neg (fun t => w (this.mp t))]
theorem pure_law_lefts {K : PySem.W.Frag} (vs : List V) (H : Hp) (Q : VK) (E : XK) (h : sp_law_lefts K vs H Q E) : t_law_lefts K { nx := fun _ H' => Q .non H', rt := Q } (start N_law_lefts vs) H := by
  obtain ⟨a, b, D, m, T, rfl, hD, hv, hm, hl, hT, htl, ht, k⟩ := h
  obtain ⟨C, L, R, cc⟩ := cut_ex hv ht
  unfold t_law_lefts
  walk_at "S"
  refine ⟨a, D, m, rfl, hD, hv, hm, hl, fun H1 bp kvs e1 n1 h1 hkl hval => ?_⟩
  have hb : IsM H1 bp (fun z => if z ∈ D.flatten then some (sig D z) else none) := ⟨⟨kvs, h1, fun z => by rw [hval]; by_cases q : z ∈ D.flatten <;> simp [q]⟩⟩
  walk_at "S"
  refine new1 fun zp H2 e2 n2 h2 => ?_
  walk_at "S"
  refine ⟨bp, kvs, rfl, e2 _ _ h1, ?_⟩
  rw [hkl]
  refine a_rep (n := 2 * m) h2 (by omega) fun cp H3 e3 n3 h3 => ?_
  walk_at "S"
  have e03 := (e1.trans e2).trans e3
  refine a_len (hT.ex e03) ?_
  have nc : H cp = none := ex_back (e1.trans e2) n3
  have n2c : H2 cp = none := n3
  walk_at "S"
  have hc0 : CTo (List.replicate (2 * m) 0) m (((List.range 0).map L).flatten) := ⟨List.length_replicate, fun e he => by
    rw [List.getElem?_replicate, if_pos he]; rfl⟩
  refine forR (n := T.length) (by omega) (fun i σ H' => ∃ y4 y5 y6 ns, σ = [some (.ref a), some (.ref b), some (.ref bp), some (.ref cp), y4, y5, y6] ∧ Ex H2 H' ∧ IsI H' cp ns ∧ CTo ns m (((List.range i).map L).flatten)) ⟨_, _, _, _, rfl, e3, h3, hc0⟩ ?_ ?_
  · rintro i σ H4 hi ⟨y4, y5, y6, ns, rfl, e4, h4, hct⟩
    have hap := cc.apart hi
    have hcon := cc.conL hi
    have e04 := (e1.trans e2).trans e4
    have e14 := e2.trans e4
    have hz := get_some hi
    have hpf : mt (prv T i) ∈ D.flatten := hv.mt (ht.inD hv (prv_in hi))
    walk_at "S"
    refine a_prev (hT.ex e04) hi ?_
    walk_at "S"
    have hfirst : (L i ++ [T.getD i 0])[0]? = some (sig D (mt (prv T i))) := by
      cases hL : L i with
      | nil => rw [hL] at hcon; rw [Con.head hcon]; rfl
      | cons x l => rw [hL] at hcon; rw [Con.head hcon]; rfl
    refine m_get (i := sig D (mt (prv T i))) (hb.ex' e14) (if_pos hpf) ?_
    walk_at "S"
    refine whileW (fun μ σ H' => ∃ (L1 L2 ns : List Int) (e : Int), L i = L1 ++ L2 ∧ σ = [some (.ref a), some (.ref b), some (.ref bp), some (.ref cp), some (.int (i : Int)), some (.int (mt (prv T i))), some (.int e)] ∧ (L2 ++ [T.getD i 0])[0]? = some e ∧ Ex H2 H' ∧ IsI H' cp ns ∧ CTo ns m (((List.range i).map L).flatten ++ L1) ∧ μ = L2.length)
      _ ⟨[], L i, ns, _, rfl, rfl, hfirst, e4, h4, by rw [List.append_nil]; exact hct, rfl⟩ ?_
    rintro μ σ H5 ⟨L1, L2, ns, e, hL, rfl, he, e5, h5, hct, rfl⟩
    have e05 := (e1.trans e2).trans e5
    have e15 := e2.trans e5
    cases L2 with
    | nil =>
      have he : T.getD i 0 = e := Option.some.inj he
      subst he
      walk_at "S"
      refine a_ix (hT.ex e05) hz ?_
      walk_at "S"
      refine iteNe (fun c => absurd rfl c) (fun _ => ?_)
      walk_at "S"
      rw [if_neg (by decide)]
      rw [List.append_nil] at hL
      refine ⟨_, _, _, ns, rfl, e5, h5, ?_⟩
      rw [List.range_succ, List.map_append, List.flatten_append]
      show CTo ns m (_ ++ ([L i].flatten))
      rw [show [L i].flatten = L i by simp, hL]
      exact hct
    | cons x L2 =>
      have he : x = e := Option.some.inj he
      subst he
      have hxL : x ∈ L i := by rw [hL]; exact List.mem_append_right _ (List.mem_cons_self ..)
      have hx1 : x ≠ T.getD i 0 := by rintro rfl; exact hap.2.2.1 hxL
      have hx2 : x ≠ mt (prv T i) := by rintro rfl; exact hap.1 hxL
      have hxs := cc.sL hi hxL
      have hxf : x ∈ D.flatten := flat_of_getD hxs
      have hxr := hv.rg x hxf
      have hxS : x ∉ ((List.range i).map L).flatten ++ L1 := by
        intro q
        rcases List.mem_append.mp q with q | q
        · obtain ⟨l, hl1, hl2⟩ := List.mem_flatten.mp q
          obtain ⟨j, hj, rfl⟩ := List.mem_map.mp hl1
          have hj := List.mem_range.mp hj
          have hjs := cc.sL (i := j) (by omega) hl2
          have h1 := seat_of' hv.nd hxs
          have h2 := seat_of' hv.nd hjs
          have := turn_seat ht hz (get_some (show j < T.length by omega)) (h1.symm.trans h2)
          omega
        · have hn := hap.2.2.2.2.2.1
          rw [hL] at hn
          exact (List.nodup_append.mp hn).2.2 x q x (List.mem_cons_self ..) rfl
      have hget := hct.get hxr.1 hxr.2
      rw [if_neg hxS] at hget
      have hnext : (L2 ++ [T.getD i 0])[0]? = some (sig D x) := by
        have hc2 := hcon
        rw [hL] at hc2
        have e0 : mt (prv T i) :: ((L1 ++ x :: L2) ++ [T.getD i 0]) = (mt (prv T i) :: L1) ++ ((x :: (L2 ++ [T.getD i 0])) ++ []) := by simp
        rw [e0] at hc2
        have hc3 := hc2.mid
        cases L2 with
        | nil => rw [Con.head hc3]; rfl
        | cons y l => rw [Con.head hc3]; rfl
      walk_at "S"
      refine a_ix (hT.ex e05) hz ?_
      walk_at "S"
      refine iteNe (fun _ => ?_) (fun c => absurd c hx1)
      walk_at "S"
      refine iteNe (fun _ => ?_) (fun c => absurd c hx2)
      refine whT ?_
      walk_at "S"
      refine a_ixz h5 hxr.1 hget ?_
      walk_at "S"
      obtain ⟨xn, rfl⟩ : ∃ n : Nat, x = (n : Int) := ⟨x.toNat, by omega⟩
      rw [Int.toNat_natCast] at hget
      refine a_set h5 (List.getElem?_eq_some_iff.mp hget).1 ?_
      walk_at "S"
      have ne2 : ∀ o, Ex H2 (upd H5 cp o) := fun o => ex_mut e5 n2c
      refine m_get (i := sig D (xn : Int)) (hb.ex' (e2.trans (ne2 _))) (if_pos hxf) ?_
      have hst := hct.step hxr.1 hxr.2
      rw [Int.toNat_natCast] at hst
      exact ⟨L2.length, by show _ < _ + 1; omega, L1 ++ [(xn : Int)], L2, _, _, by rw [hL, List.append_assoc]; rfl, rfl, hnext, ne2 _, upd_same, by rw [← List.append_assoc]; exact hst, rfl⟩
  · rintro σ H4 ⟨y4, y5, y6, ns, rfl, e4, h4, hct⟩
    walk_at "S"
    refine k H4 cp ns ((e1.trans e2).trans e4) nc h4 ?_
    apply List.ext_getElem?
    intro j
    by_cases hj : j < 2 * m
    · rw [hct.2 j hj, List.getElem?_map, List.getElem?_range hj]
      show _ = some (cnt D T (j : Int))
      unfold cnt
      have hiff : (j : Int) ∈ ((List.range T.length).map L).flatten ↔ Lft D T (j : Int) := by
        rw [cc.lft]
        constructor
        · intro q
          obtain ⟨l, hl1, hl2⟩ := List.mem_flatten.mp q
          obtain ⟨i, hi, rfl⟩ := List.mem_map.mp hl1
          exact ⟨i, List.mem_range.mp hi, hl2⟩
        · rintro ⟨i, hi, hl⟩
          exact List.mem_flatten.mpr ⟨L i, List.mem_map.mpr ⟨i, List.mem_range.mpr hi, rfl⟩, hl⟩
      by_cases q : Lft D T (j : Int)
      · rw [if_pos q, if_pos (hiff.mpr q)]
      · rw [if_neg q, if_neg (fun t => q (hiff.mp t))]
    · rw [List.getElem?_eq_none (by rw [hct.1]; omega), List.getElem?_eq_none (by rw [List.length_map, List.length_range]; omega)]

section
variable {P : Program} {w : World} {K : PySem.W.Frag} {mg : Str → Option Value} {base : Heap}
theorem sc_law_lefts : FnScope N_law_lefts ["_law_drawing_here", "_law_walk"] (defScope s_law_lefts) := ⟨rfl, rfl, rfl, by decide +kernel, rfl, by decide +kernel, by decide +kernel⟩
theorem cal_law_lefts (B : Blt mg) (D : Dfn K mg "_law_lefts" s_law_lefts ["_law_drawing_here", "_law_walk"]) (C_law_behind : Cal P w K mg base CX0 1 "_law_behind" ["_law_drawing_here"] (sp_law_behind K)) (C_law_mate : Cal P w K mg base CX0 1 "_law_mate" ["_law_end"] (sp_law_mate K)) : Cal P w K mg base CX0 2 "_law_lefts" ["_law_drawing_here", "_law_walk"] (sp_law_lefts K) := by
  refine cal_mk D fun f fd F => F.ok sc_law_lefts (fun vs H Q E h => len_law_lefts h) (fun cdv A outer s H vs Q E hr h => ⟨t_law_lefts K, ?_, pure_law_lefts vs H Q E h⟩)
  have hu := hu_of hr
  exact (pss_cons (ps_set (i := 2) sc_law_lefts.nd rfl (Or.inl rfl) (pe_cal C_law_behind hr (by decide) (by rfl) (pa_cons (pv 0) pa_nil)))
        (pss_cons (ps_set (i := 3) sc_law_lefts.nd rfl (Or.inl rfl) (pe_op op_rep (pe_lst (pa_cons pe_int pa_nil)) (pe_callB call_lenD (by rfl) B.len_ PySem.boot_len (pa_cons (pv 2) pa_nil))))
        (pss_cons (ps_for PassesOwn.never rfl (pi_range1 (by rfl) B.range_ (pa_cons (pe_callB call_len_seq (by rfl) B.len_ PySem.boot_len (pa_cons (pv 1) pa_nil)) pa_nil)) (pg_name (i := 4) sc_law_lefts.nd rfl (Or.inl rfl)) (pss_cons (ps_set (i := 5) sc_law_lefts.nd rfl (Or.inl rfl) (pe_cal C_law_mate hr (by decide) (by rfl) (pa_cons (pe_ix ix_list (pv 1) (pe_op op_sub (pv 4) pe_int) (fun _ _ => rfl)) pa_nil)))
          (pss_cons (ps_set (i := 6) sc_law_lefts.nd rfl (Or.inl rfl) (pe_dget hu (pv 2) (pv 5) (fun _ _ => rfl)))
          (pss_one (ps_while PassesOwn.never (PW.pt (pw_and (pt_cmpR op_ne (pv 6) (pe_ix ix_list (pv 1) (pv 4) (fun _ _ => rfl)) (nomark _)) (pw_and1 (pt_cmpR op_ne (pv 6) (pv 5) (nomark _))))) (pss_cons (ps_asg (pe_op op_add (pe_ix ix_list (pv 3) (pv 6) (fun _ _ => rfl)) pe_int) (pg_sub (pv 3) (pv 6) set_list))
            (pss_one (ps_set (i := 6) sc_law_lefts.nd rfl (Or.inl rfl) (pe_dget hu (pv 2) (pv 6) (fun _ _ => rfl))))))))))
        (pss_one (ps_ret (pv 3))))))
end

abbrev s_law_crossing : Stmt := top 47
abbrev N_law_crossing : List Str := ["_law_drawing_here", "_law_walk", "_law_other", "_law_counts", "_law_end"]
-- slots: 0 drawing_here, 1 walk, 2 other, 3 counts, 4 end
def t_law_crossing (K : PySem.W.Frag) : TS :=
  (tSeq (tAsg (tCal (sp_law_lefts K) (tCons (tVar 0) (tCons (tVar 1) tNil))) (gName 3))
        (tRet (tCB (rSum K) (tCons (tLc (iList K (tVar 2)) (gName 4) tYes (tOp rSub (tOp (rIxL K) (tVar 3) (tVar 4)) (tOp (rIxL K) (tVar 3) (tCal (sp_law_mate K) (tCons (tVar 4) tNil)))) [4]) tNil))))
theorem len_law_crossing {K : PySem.W.Frag} {vs : List V} {H : Hp} {Q : VK} {E : XK} (h : sp_law_crossing K vs H Q E) : vs.length = (["_law_drawing_here", "_law_walk", "_law_other"] : List Str).length := by
  obtain ⟨a, b, c, D, m, T, F, rfl, _⟩ := h; rfl
theorem cnt_get {D : Dr} {T : List Int} {m : Nat} {e : Int} (h0 : 0 ≤ e) (h1 : e < 2 * m) : ((List.range (2 * m)).map fun e : Nat => cnt D T (e : Int))[e.toNat]? = some (cnt D T e) := by
  rw [List.getElem?_map, List.getElem?_range (by omega)]
  show some (cnt D T ((e.toNat : Nat) : Int)) = _
  rw [Int.toNat_of_nonneg h0]
theorem pure_law_crossing {K : PySem.W.Frag} (vs : List V) (H : Hp) (Q : VK) (E : XK) (h : sp_law_crossing K vs H Q E) : t_law_crossing K { nx := fun _ H' => Q .non H', rt := Q } (start N_law_crossing vs) H := by
  obtain ⟨a, b, c, D, m, T, F, rfl, hD, hv, hm, hl, hT, htl, ht, hF, hfl, hfr, k⟩ := h
  unfold t_law_crossing
  walk_at "S"
  refine ⟨a, b, D, m, T, rfl, hD, hv, hm, hl, hT, htl, ht, fun H1 p ns e1 _ hp hns => ?_⟩
  subst hns
  walk_at "S"
  refine lcI1 (hF.ex e1) (by omega) (fun e => cnt D T e - cnt D T (mt e)) (fun z hz H2 e2 R r => ?_) fun q H2 e2 n2 h2 => ?_
  · have hzz := hfr z hz
    walk_at "S"
    refine a_ixz (hp.ex e2) hzz.1 (cnt_get hzz.1 hzz.2) ?_
    walk_at "S"
    refine a_ixz (hp.ex e2) (mt_lo hzz.1) (cnt_get (mt_lo hzz.1) (mt_hi hzz.2)) ?_
    walk_at "S"
    exact r H2 (Ex.refl H2)
  · refine a_sum h2 ?_
    exact k H2 (e1.trans e2)

section
variable {P : Program} {w : World} {K : PySem.W.Frag} {mg : Str → Option Value} {base : Heap}
theorem sc_law_crossing : FnScope N_law_crossing ["_law_drawing_here", "_law_walk", "_law_other"] (defScope s_law_crossing) := ⟨rfl, rfl, rfl, by decide +kernel, rfl, by decide +kernel, by decide +kernel⟩
theorem cal_law_crossing (B : Blt mg) (D : Dfn K mg "_law_crossing" s_law_crossing ["_law_drawing_here", "_law_walk", "_law_other"]) (C_law_lefts : Cal P w K mg base CX0 2 "_law_lefts" ["_law_drawing_here", "_law_walk"] (sp_law_lefts K)) (C_law_mate : Cal P w K mg base CX0 1 "_law_mate" ["_law_end"] (sp_law_mate K)) : Cal P w K mg base CX0 3 "_law_crossing" ["_law_drawing_here", "_law_walk", "_law_other"] (sp_law_crossing K) := by
  refine cal_mk D fun f fd F => F.ok sc_law_crossing (fun vs H Q E h => len_law_crossing h) (fun cdv A outer s H vs Q E hr h => ⟨t_law_crossing K, ?_, pure_law_crossing vs H Q E h⟩)
  have hu := hu_of hr
  exact (pss_cons (ps_set (i := 3) sc_law_crossing.nd rfl (Or.inr rfl) (pe_cal C_law_lefts hr (by decide) (by rfl) (pa_cons (pv 0) (pa_cons (pv 1) pa_nil))))
        (pss_one (ps_ret (pe_callB (cr_sum rfl) (by rfl) B.sum_ (by decide +kernel) (pa_cons (pe_lc (own := [("_law_end", 4)]) (g := gName 4) rfl sc_law_crossing.nd (pi_list (pv 2)) (blkOk_by (own := [("_law_end", 4)]) (N := N_law_crossing) (sc := (defScope s_law_crossing)) (by decide +kernel)) (fun _ _ _ _ _ => pg_name (i := 4) sc_law_crossing.nd rfl (Or.inl rfl)) (fun _ _ _ _ _ => pts_nil) (fun _ _ _ _ _ => (pe_op op_sub (pe_ix ix_list (pv 3) (pv 4) (fun _ _ => rfl)) (pe_ix ix_list (pv 3) (pe_cal C_law_mate hr (by decide) (by rfl) (pa_cons (pv 4) pa_nil)) (fun _ _ => rfl))))) pa_nil)))))
end

abbrev s_law_wholes : Stmt := top 48
abbrev N_law_wholes : List Str := ["_law_found", "_law_number"]
-- slots: 0 found, 1 number
def t_law_wholes (K : PySem.W.Frag) : TS :=
  (tSeq (tIfS (tNot (tB (tCB (rIsi K) (tCons (tVar 0) (tCons (tC (.ty "list")) tNil))))) (tRet (tC (.bl false))) tNext)
        (tSeq (tFor (iList K (tVar 0)) (gName 1) (tIfS (tOr (tNot (tB (tCB (rIsi K) (tCons (tVar 1) (tCons (tC (.ty "int")) tNil))))) (tB (tCB (rIsi K) (tCons (tVar 1) (tCons (tC (.ty "bool")) tNil))))) (tRet (tC (.bl false))) tNext))
        (tRet (tC (.bl true)))))
theorem len_law_wholes {K : PySem.W.Frag} {vs : List V} {H : Hp} {Q : VK} {E : XK} (h : sp_law_wholes K vs H Q E) : vs.length = (["_law_found"] : List Str).length := by
  obtain ⟨a, ns, rfl, _⟩ := h; rfl
theorem pure_law_wholes {K : PySem.W.Frag} (vs : List V) (H : Hp) (Q : VK) (E : XK) (h : sp_law_wholes K vs H Q E) : t_law_wholes K { nx := fun _ H' => Q .non H', rt := Q } (start N_law_wholes vs) H := by
  obtain ⟨a, ns, rfl, hI, k⟩ := h
  unfold t_law_wholes
  walk_at "S"
  refine isi_list hI ?_
  walk_at "S"
  refine iteBn (fun c => Bool.noConfusion c) (fun _ => ?_)
  walk_at "S"
  refine forI hI (fun i σ H' => ∃ y, σ = [some (.ref a), y] ∧ Ex H H') ⟨_, rfl, Ex.refl H⟩ (fun i σ H' ⟨_, _, e⟩ => e) ?_ ?_
  · rintro i z σ H2 hz e2 ⟨y, rfl, _⟩
    walk_at "S"
    refine iteBn (fun c => Bool.noConfusion c) (fun _ => ?_)
    walk_at "S"
    refine iteB (fun c => Bool.noConfusion c) (fun _ => ?_)
    walk_at "S"
    exact ⟨_, rfl, e2⟩
  · rintro σ H2 ⟨y, rfl, e2⟩
    walk_at "S"
    exact k H2 e2

section
variable {P : Program} {w : World} {K : PySem.W.Frag} {mg : Str → Option Value} {base : Heap}
theorem sc_law_wholes : FnScope N_law_wholes ["_law_found"] (defScope s_law_wholes) := ⟨rfl, rfl, rfl, by decide +kernel, rfl, by decide +kernel, by decide +kernel⟩
theorem cal_law_wholes (B : Blt mg) (D : Dfn K mg "_law_wholes" s_law_wholes ["_law_found"])  : Cal P w K mg base CX0 1 "_law_wholes" ["_law_found"] (sp_law_wholes K) := by
  refine cal_mk D fun f fd F => F.ok sc_law_wholes (fun vs H Q E h => len_law_wholes h) (fun cdv A outer s H vs Q E hr h => ⟨t_law_wholes K, ?_, pure_law_wholes vs H Q E h⟩)
  have hu := hu_of hr
  exact (pss_cons (ps_if (pt_not (pt_val (pe_callB call_isi (by rfl) B.isinstance_ (by decide +kernel) (pa_cons (pv 0) (pa_cons (pe_bltn (v := .ty "list") (by rfl) B.list_ (by decide +kernel) rfl) pa_nil))))) (pss_one (ps_ret pe_bl)) pss_nil)
        (pss_cons (ps_for PassesOwn.never rfl (pi_list (pv 0)) (pg_name (i := 1) sc_law_wholes.nd rfl (Or.inl rfl)) (pss_one (ps_if (PW.pt (pw_or (pt_not (pt_val (pe_callB call_isi (by rfl) B.isinstance_ (by decide +kernel) (pa_cons (pv 1) (pa_cons (pe_bltn (v := .ty "int") (by rfl) B.int_ (by decide +kernel) rfl) pa_nil))))) (pw_or1 (pt_val (pe_callB call_isi (by rfl) B.isinstance_ (by decide +kernel) (pa_cons (pv 1) (pa_cons (pe_bltn (v := .ty "bool") (by rfl) B.bool_ (by decide +kernel) rfl) pa_nil))))))) (pss_one (ps_ret pe_bl)) pss_nil)))
        (pss_one (ps_ret pe_bl))))
end

abbrev s_law_parted : Stmt := top 49
abbrev N_law_parted : List Str := ["_law_drawing_here", "_law_turn_here", "_law_lands_here", "_law_home", "_law_k", "_law_end", "_law_gone", "_law_seen", "_law_waiting", "_law_beyond"]
-- slots: 0 drawing_here, 1 turn_here, 2 lands_here, 3 home, 4 k, 5 end, 6 gone, 7 seen, 8 waiting, 9 beyond
def t_law_parted (K : PySem.W.Frag) : TS :=
  (tSeq (tAsg (tCal (sp_law_lands K) (tCons (tVar 0) tNil)) (gName 2))
        (tSeq (tAsg tDNewK (gName 3))
        (tSeq (tFor (iRng1 (tCons (tCB (bLen K) (tCons (tVar 2) tNil)) tNil)) (gName 4) (tFor (iList K (tOp (rIxL K) (tVar 2) (tVar 4))) (gName 5) (sDPut (tVar 3) (tVar 5) (tVar 4))))
        (tSeq (tAsg (tLc (iList K (tVar 1)) (gName 5) tYes (tOp rDiv (tVar 5) (tC (.int 2))) [5]) (gName 6))
        (tSeq (tAsg (tDisp [((tDGet (tVar 3) (tOp (rIxL K) (tVar 1) (tC (.int 0)))), (tC (.bl true)))]) (gName 7))
        (tSeq (tAsg (tLst (tCons (tDGet (tVar 3) (tOp (rIxL K) (tVar 1) (tC (.int 0)))) tNil)) (gName 8))
        (tSeq (tWhile (tTest (tOp rGt (tCB (bLen K) (tCons (tVar 8) tNil)) (tC (.int 0)))) (tFor (iList K (tOp (rIxL K) (tVar 2) (tBM0 K "list" rPop (tVar 8)))) (gName 5) (tSeq (tAsg (tDGet (tVar 3) (tCal (sp_law_mate K) (tCons (tVar 5) tNil))) (gName 9))
            (tIfS (tAnd (tTest (tOp (rIn K true) (tOp rDiv (tVar 5) (tC (.int 2))) (tVar 6))) (tB (tDNotIn (tVar 9) (tVar 7)))) (tSeq (sDPut (tVar 7) (tVar 9) (tC (.bl true)))
              (tDrop (tBM K "list" rAppend (tVar 8) (tCons (tVar 9) tNil)))) tNext))))
        (tRet (tDNotIn (tDGet (tVar 3) (tCal (sp_law_mate K) (tCons (tOp (rIxL K) (tVar 1) (tC (.int 0))) tNil))) (tVar 7))))))))))
theorem len_law_parted {K : PySem.W.Frag} {vs : List V} {H : Hp} {Q : VK} {E : XK} (h : sp_law_parted K vs H Q E) : vs.length = (["_law_drawing_here", "_law_turn_here"] : List Str).length := by
  obtain ⟨a, b, D, m, T, rfl, _⟩ := h; rfl
theorem reach_orb {D : Dr} {T : List Int} {x e f : Int} (h : Reach D T x e) (o : Orb D e f) : Reach D T x f := by
  induction o with
  | base => exact h
  | step _ ih => exact .step ih
theorem reach_in {D : Dr} {m : Nat} {T : List Int} {x e : Int} (v : Valid D m) (hx : x ∈ D.flatten) (h : Reach D T x e) : e ∈ D.flatten := by
  induction h with
  | base => exact hx
  | step _ ih => exact sig_mem v (v.mt ih)
  | cross _ _ ih => exact v.mt ih
structure Sn (D Ls : Dr) (T : List Int) (S W : List Nat) (U : Nat → Prop) : Prop where
  nd : S.Nodup
  lt : ∀ k ∈ S, k < Ls.length
  ws : ∀ k ∈ W, k ∈ S
  wl : W.length ≤ S.length
  x0 : seat Ls (T.getD 0 0) ∈ S
  rc : ∀ k ∈ S, ∀ e ∈ Ls.getD k [], Reach D T (T.getD 0 0) e
  cl : ∀ k ∈ S, k ∈ W ∨ U k ∨ ∀ e ∈ Ls.getD k [], e / 2 ∉ T.map (· / 2) → seat Ls (mt e) ∈ S
theorem land_all {D Ls : Dr} {T : List Int} (L : Lands D Ls) {e : Int} {x : Int} (he : e ∈ D.flatten) (h : Reach D T x e) : ∀ f ∈ Ls.getD (seat Ls e) [], Reach D T x f := fun f hf => by
  obtain ⟨r, hr, hm⟩ := seat_at ((L.mem e).mpr he)
  rw [getD_of hr] at hf
  exact reach_orb h (L.one r (List.mem_of_getElem? hr) e hm f hf)
theorem sn_start {D Ls : Dr} {m : Nat} {T : List Int} (v : Valid D m) (L : Lands D Ls) (t : IsTurn D m T) : Sn D Ls T [seat Ls (T.getD 0 0)] [seat Ls (T.getD 0 0)] (fun _ => False) := by
  have h0 : T.getD 0 0 ∈ D.flatten := t.inD v (get_in (List.length_pos_iff.mpr t.ne))
  have h1 : seat Ls (T.getD 0 0) < Ls.length := seat_lt ((L.mem _).mpr h0)
  refine ⟨by simp, fun k hk => ?_, fun k hk => hk, Nat.le_refl _, List.mem_singleton.mpr rfl, fun k hk => ?_, fun k hk => .inl hk⟩
  · rw [List.mem_singleton.mp hk]; exact h1
  · rw [List.mem_singleton.mp hk]
    exact land_all L h0 .base
theorem Sn.push {D Ls : Dr} {m : Nat} {T : List Int} {S W : List Nat} {U : Nat → Prop} (v : Valid D m) (L : Lands D Ls) (s : Sn D Ls T S W U) {w : Nat} {e : Int} (hw : w ∈ S) (he : e ∈ Ls.getD w []) (hg : e / 2 ∉ T.map (· / 2)) (hb : seat Ls (mt e) ∉ S) :
    Sn D Ls T (S ++ [seat Ls (mt e)]) (W ++ [seat Ls (mt e)]) U := by
  have hef : e ∈ D.flatten := (L.mem e).mp (flat_of_getD he)
  have hm : mt e ∈ D.flatten := v.mt hef
  refine ⟨List.nodup_append.mpr ⟨s.nd, by simp, fun a ha b hb' => by rw [List.mem_singleton.mp hb']; rintro rfl; exact hb ha⟩, fun k hk => ?_, fun k hk => ?_, by rw [List.length_append, List.length_append]; have := s.wl; omega, List.mem_append_left _ s.x0, fun k hk => ?_, fun k hk => ?_⟩
  · rcases List.mem_append.mp hk with hk | hk
    · exact s.lt k hk
    · rw [List.mem_singleton.mp hk]; exact seat_lt ((L.mem _).mpr hm)
  · rcases List.mem_append.mp hk with hk | hk
    · exact List.mem_append_left _ (s.ws k hk)
    · exact List.mem_append_right _ hk
  · rcases List.mem_append.mp hk with hk | hk
    · exact s.rc k hk
    · rw [List.mem_singleton.mp hk]
      exact land_all L hm (.cross (s.rc w hw e he) hg)
  · rcases List.mem_append.mp hk with hk | hk
    · rcases s.cl k hk with q | q | q
      · exact .inl (List.mem_append_left _ q)
      · exact .inr (.inl q)
      · exact .inr (.inr fun e he hg => List.mem_append_left _ (q e he hg))
    · exact .inl (List.mem_append_right _ hk)
theorem sn_done {D Ls : Dr} {m : Nat} {T : List Int} {S : List Nat} (v : Valid D m) (L : Lands D Ls) (t : IsTurn D m T) (s : Sn D Ls T S [] (fun _ => False)) : seat Ls (mt (T.getD 0 0)) ∉ S ↔ Parted D T := by
  have h0 : T.getD 0 0 ∈ D.flatten := t.inD v (get_in (List.length_pos_iff.mpr t.ne))
  have key : ∀ e, Reach D T (T.getD 0 0) e → seat Ls e ∈ S := fun e h => by
    induction h with
    | base => exact s.x0
    | @step e h ih =>
      have he := reach_in v h0 h
      obtain ⟨r, hr, hm⟩ := seat_at ((L.mem e).mpr he)
      have := L.cl r (List.mem_of_getElem? hr) e hm
      rw [seat_of L.nd hr this]
      exact ih
    | @cross e h hg ih =>
      have he := reach_in v h0 h
      rcases s.cl _ ih with q | q | q
      · cases q
      · exact q.elim
      · exact q e (mem_seat ((L.mem e).mpr he)) hg
  unfold Parted
  constructor
  · exact fun h r => h (key _ r)
  · exact fun h r => h (s.rc _ r _ (mem_seat ((L.mem _).mpr (v.mt h0))))
theorem pure_law_parted {K : PySem.W.Frag} (vs : List V) (H : Hp) (Q : VK) (E : XK) (h : sp_law_parted K vs H Q E) : t_law_parted K { nx := fun _ H' => Q .non H', rt := Q } (start N_law_parted vs) H := by
  obtain ⟨a, b, D, m, T, rfl, hD, hv, hm, hl, hT, htl, ht, k⟩ := h
  have hT0 : 0 < T.length := List.length_pos_iff.mpr ht.ne
  have hx0 := get_some hT0
  have hx0D : T.getD 0 0 ∈ D.flatten := ht.inD hv (get_in hT0)
  unfold t_law_parted
  walk_at "S"
  refine ⟨a, D, m, rfl, hD, hv, by omega, by omega, fun H1 lp Ls e1 n1 hL ⟨LL, hLl⟩ => ?_⟩
  have hfl : Ls.flatten.length ≤ 2000 := by
    have := nodup_len LL.nd fun x hx => (LL.mem x).mp hx
    rw [hv.ln] at this
    omega
  walk_at "S"
  refine s_dnew fun hp H2 e2 n2 h2 => ?_
  walk_at "S"
  refine a_lenD (hL.ex' e2) ?_
  refine forR (n := Ls.length) (by omega) (fun i σ H' => ∃ y4 y5, σ = [some (.ref a), some (.ref b), some (.ref lp), some (.ref hp), y4, y5, none, none, none, none] ∧ Ex H1 H' ∧ IsK H' hp (Ls.take i).flatten (fun z => .int ((seat Ls z : Nat) : Int))) ⟨_, _, rfl, e2, k_new _ h2⟩ ?_ ?_
  · rintro i σ H3 hi ⟨y4, y5, rfl, e3, hk⟩
    have hr : Ls[i]? = some Ls[i] := List.getElem?_eq_getElem hi
    have hrl : Ls[i].length ≤ 2000 := Nat.le_trans (List.Sublist.length_le (List.sublist_flatten_of_mem (List.mem_of_getElem? hr))) hfl
    walk_at "S"
    obtain ⟨ps, q1, q2, q3⟩ := hL.ex
    have hpx : ps[i]? = some ps[i] := List.getElem?_eq_getElem (by omega)
    refine ⟨_, _, _, _, rfl, rfl, sq (e3 _ _ q1), atI_nat (j := i) (by rw [List.getElem?_map, hpx]; rfl), ?_⟩
    refine forI (q3 i _ _ hpx hr) (fun t σ H' => ∃ y5, σ = [some (.ref a), some (.ref b), some (.ref lp), some (.ref hp), some (.int (i : Int)), y5, none, none, none, none] ∧ Ex H1 H' ∧ IsK H' hp ((Ls.take i).flatten ++ Ls[i].take t) (fun z => .int ((seat Ls z : Nat) : Int))) ⟨_, rfl, e3, by rw [List.take_zero, List.append_nil]; exact hk⟩ (fun i σ H' ⟨_, _, e, _⟩ => e) ?_ ?_
    · rintro t z σ H4 hz e4 ⟨y5, rfl, _, hk⟩
      have hln : (Ls.take i).flatten.length ≤ 2000 := by
        have h0 : Ls.flatten = (Ls.take i).flatten ++ (Ls.drop i).flatten := by rw [← List.flatten_append, List.take_append_drop]
        have h1 := congrArg List.length h0
        rw [List.length_append] at h1
        omega
      walk_at "S"
      refine k_put hk (ahead LL.nd hr hz) (by rw [List.length_append, List.length_take]; omega) ?_ fun o hk' => ?_
      · rw [seat_of LL.nd hr (List.mem_of_getElem? hz)]
      · refine ⟨_, rfl, ex_mut e4 n2, ?_⟩
        rw [List.take_add_one, hz, ← List.append_assoc]
        exact hk'
    · rintro σ H4 ⟨y5, rfl, e4, hk⟩
      rw [List.take_length, ← take_flat hr] at hk
      exact ⟨_, _, rfl, e4, hk⟩
  rintro σ H3 ⟨y4, y5, rfl, e3, hk⟩
  rw [List.take_length] at hk
  have e03 := e1.trans e3
  have home : ∀ {H' : Hp} {z : Int} {Q : VK}, Ex H3 H' → z ∈ D.flatten → Q (.int ((seat Ls z : Nat) : Int)) H' → rDGet (.ref hp) (.int z) H' Q := fun e hz q => k_get (hk.ex' e) ((LL.mem _).mpr hz) q
  walk_at "S"
  refine lcI1 (hT.ex e03) (by omega) (· / 2) (fun z hz H4 e4 R r => ?_) fun gp H4 e4 n4 h4 => ?_
  · walk_at "S"
    rw [fdiv2]
    exact r H4 (Ex.refl H4)
  walk_at "S"
  refine s_disp1 fun sp H5 e5 n5 h5 => ?_
  walk_at "S"
  refine a_ix (i := 0) (hT.ex ((e03.trans e4).trans e5)) hx0 ?_
  refine home (e4.trans e5) hx0D ?_
  walk_at "S"
  refine disp1 h5 fun o hst => ?_
  have e4u : Ex H4 (upd H5 sp o) := ex_mut e5 n5
  generalize upd H5 sp o = H6 at hst e4u
  walk_at "S"
  refine a_ix (i := 0) (hT.ex ((e03.trans e4).trans e4u)) hx0 ?_
  refine home (e4.trans e4u) hx0D ?_
  walk_at "S"
  refine new1 fun wp H7 e7 n7 h7 => ?_
  have hws : wp ≠ sp := by
    obtain ⟨kvs, q, _⟩ := hst.ex
    rintro rfl; rw [q] at n7; cases n7
  have n4s : H4 sp = none := n5
  have n4w : H4 wp = none := ex_back e4u n7
  walk_at "S"
  refine whileW (fun μ σ H' => ∃ (y5 y9 : Option V) (S W : List Nat) (g : Int → Option V), σ = [some (.ref a), some (.ref b), some (.ref lp), some (.ref hp), y4, y5, some (.ref gp), some (.ref sp), some (.ref wp), y9] ∧ Ex H4 H' ∧ IsT H' sp g S.length ∧ (∀ n : Nat, (g (n : Int)).isSome = decide (n ∈ S)) ∧ IsI H' wp (W.map fun n : Nat => (n : Int)) ∧
      Sn D Ls T S W (fun _ => False) ∧ μ = 2 * (Ls.length - S.length) + W.length) _
    ⟨_, _, [seat Ls (T.getD 0 0)], [seat Ls (T.getD 0 0)], _, rfl, e4u.trans e7, hst.ex' e7, ?_, h7, sn_start hv LL ht, rfl⟩ ?_
  · intro n
    unfold putT
    by_cases q : n = seat Ls (T.getD 0 0)
    · rw [if_pos (by rw [q]), decide_eq_true (List.mem_singleton.mpr q)]; rfl
    · rw [if_neg (fun z => q (by omega)), decide_eq_false (fun z => q (List.mem_singleton.mp z))]; rfl
  rintro μ σ H8 ⟨y5, y9, S, W, g, rfl, e8, hs8, hg8, hw8, sn, rfl⟩
  have hSlen : ∀ {S : List Nat}, S.Nodup → (∀ k ∈ S, k < Ls.length) → S.length ≤ Ls.length := fun hn hlt => by
    have := nodup_len (m := List.range Ls.length) hn fun k hk => List.mem_range.mpr (hlt k hk)
    rw [List.length_range] at this
    exact this
  walk_at "S"
  refine a_len hw8 ?_
  walk_at "S"
  rw [List.length_map]
  refine iteD (fun c => ?_) (fun c => ?_)
  · refine whT ?_
    have hWne : W ≠ [] := by rintro rfl; exact absurd c (by decide)
    obtain ⟨W', w, rfl⟩ : ∃ W' w, W = W' ++ [w] := ⟨W.dropLast, W.getLast hWne, (List.dropLast_concat_getLast hWne).symm⟩
    have hwS : w ∈ S := sn.ws w (List.mem_append_right _ (List.mem_singleton.mpr rfl))
    have hwl := sn.lt w hwS
    have hr : Ls[w]? = some Ls[w] := List.getElem?_eq_getElem hwl
    have hxs : ((W' ++ [w]).map fun n : Nat => (n : Int)).map V.int = ((W'.map fun n : Nat => (n : Int)).map V.int) ++ [V.int (w : Int)] := by simp
    walk_at "S"
    refine ⟨tyl hw8, _, _, .int (w : Int), rfl, rfl, hw8, ?_, ?_⟩
    · rw [hxs]; simp
    rw [hxs, List.dropLast_concat]
    have e9 : Ex H4 (upd H8 wp (.lst ((W'.map fun n : Nat => (n : Int)).map V.int))) := ex_mut e8 n4w
    have hs9 : IsT (upd H8 wp (.lst ((W'.map fun n : Nat => (n : Int)).map V.int))) sp g S.length := by
      obtain ⟨kvs, q, r⟩ := hs8.ex
      exact ⟨⟨kvs, by rw [upd_ne hws.symm]; exact q, r⟩⟩
    have hw9 : IsI (upd H8 wp (.lst ((W'.map fun n : Nat => (n : Int)).map V.int))) wp (W'.map fun n : Nat => (n : Int)) := upd_same
    generalize upd H8 wp (.lst ((W'.map fun n : Nat => (n : Int)).map V.int)) = H9 at e9 hs9 hw9
    obtain ⟨ps, q1, q2, q3⟩ := hL.ex
    have hpx : ps[w]? = some ps[w] := List.getElem?_eq_getElem (by omega)
    have e14 : Ex H1 H4 := e3.trans e4
    refine ⟨_, _, _, _, rfl, rfl, sq (e9 _ _ (e14 _ _ q1)), atI_nat (j := w) (by rw [List.getElem?_map, hpx]; rfl), ?_⟩
    have hS0 := hSlen sn.nd sn.lt
    refine forI ((q3 w _ _ hpx hr).ex e14) (fun t σ H' => ∃ (y5 y9 : Option V) (S2 W2 : List Nat) (g : Int → Option V), σ = [some (.ref a), some (.ref b), some (.ref lp), some (.ref hp), y4, y5, some (.ref gp), some (.ref sp), some (.ref wp), y9] ∧ Ex H4 H' ∧ IsT H' sp g S2.length ∧ (∀ n : Nat, (g (n : Int)).isSome = decide (n ∈ S2)) ∧ IsI H' wp (W2.map fun n : Nat => (n : Int)) ∧
      Sn D Ls T S2 W2 (fun k => k = w) ∧ w ∈ S2 ∧ (∀ (j : Nat) (e : Int), j < t → Ls[w][j]? = some e → e / 2 ∉ T.map (· / 2) → seat Ls (mt e) ∈ S2) ∧ 2 * (Ls.length - S2.length) + W2.length < 2 * (Ls.length - S.length) + (W' ++ [w]).length)
      ⟨_, _, S, W', g, rfl, e9, hs9, hg8, hw9, ⟨sn.nd, sn.lt, fun k hk => sn.ws k (List.mem_append_left _ hk), (by have := sn.wl; rw [List.length_append] at this; omega), sn.x0, sn.rc, fun k hk => ?_⟩, hwS, (fun j e hj => absurd hj (Nat.not_lt_zero j)), by rw [List.length_append, List.length_singleton]; omega⟩ (fun i σ H' ⟨_, _, _, _, _, _, e, _⟩ => e) ?_ ?_
    · rcases sn.cl k hk with q | q | q
      · rcases List.mem_append.mp q with q | q
        · exact .inl q
        · exact .inr (.inl (List.mem_singleton.mp q))
      · exact q.elim
      · exact .inr (.inr q)
    · rintro t z σ H10 hz e10 ⟨y5, y9, S2, W2, g, rfl, _, hs10, hg10, hw10, sn, hwS2, hcl, hμ⟩
      have hzm : z ∈ Ls.getD w [] := by rw [getD_of hr]; exact List.mem_of_getElem? hz
      have hzD : z ∈ D.flatten := (LL.mem z).mp (flat_of_getD hzm)
      have hmD := hv.mt hzD
      have hS2 := hSlen sn.nd sn.lt
      walk_at "S"
      refine home (e4.trans e10) hmD ?_
      walk_at "S"
      rw [fdiv2]
      refine a_notin (h4.ex e10) ?_
      walk_at "S"
      refine iteN (fun hng => ?_) (fun hg => ?_)
      · walk_at "S"
        refine t_nin hs10 ?_
        walk_at "S"
        rw [hg10]
        refine iteN (fun hns => ?_) (fun hns => ?_)
        · walk_at "S"
          refine t_put hs10 (by omega) fun o hs11 => ?_
          have hw11 : IsI (upd H10 sp o) wp (W2.map fun n : Nat => (n : Int)) := by
            show (upd H10 sp o) wp = _
            rw [upd_ne hws]; exact hw10
          walk_at "S"
          refine ⟨tyl hw11, ?_⟩
          walk_at "S"
          have sn' := sn.push hv LL hwS2 hzm hng hns
          have hS3 := hSlen sn'.nd sn'.lt
          rw [List.length_append, List.length_singleton] at hS3
          have hwl2 := sn.wl
          refine a_app hw11 (by rw [List.length_map]; omega) ?_
          refine ⟨_, _, S2 ++ [seat Ls (mt z)], W2 ++ [seat Ls (mt z)], putT g ((seat Ls (mt z) : Nat) : Int) (.bl true), rfl, ex_mut (ex_mut e10 n4s) n4w, ?_, fun n => ?_, ?_, sn', List.mem_append_left _ hwS2, fun j e hj he hge => ?_, ?_⟩
          · obtain ⟨kvs, q, r⟩ := hs11.ex
            rw [List.length_append, List.length_singleton]
            exact ⟨⟨kvs, by rw [upd_ne hws.symm]; exact q, r⟩⟩
          · unfold putT
            by_cases q : n = seat Ls (mt z)
            · rw [if_pos (by rw [q]), decide_eq_true (List.mem_append_right _ (List.mem_singleton.mpr q))]; rfl
            · rw [if_neg (fun z => q (by omega)), hg10]
              by_cases q2 : n ∈ S2
              · rw [decide_eq_true q2, decide_eq_true (List.mem_append_left _ q2)]
              · rw [decide_eq_false q2, decide_eq_false (fun x => (List.mem_append.mp x).elim q2 fun y => q (List.mem_singleton.mp y))]
          · show (upd (upd H10 sp o) wp _) wp = _
            rw [upd_same, List.map_append (f := fun n : Nat => (n : Int))]; rfl
          · by_cases hjt : j = t
            · subst hjt
              rw [hz] at he
              cases he
              exact List.mem_append_right _ (List.mem_singleton.mpr rfl)
            · exact List.mem_append_left _ (hcl j e (by omega) he hge)
          · rw [List.length_append, List.length_append, List.length_singleton]
            show 2 * (_ - (_ + 1)) + (_ + 1) < _
            omega
        · walk_at "S"
          refine ⟨_, _, S2, W2, g, rfl, e10, hs10, hg10, hw10, sn, hwS2, fun j e hj he hge => ?_, hμ⟩
          by_cases hjt : j = t
          · subst hjt
            rw [hz] at he
            cases he
            exact hns
          · exact hcl j e (by omega) he hge
      · walk_at "S"
        rw [if_neg (by decide)]
        walk_at "S"
        refine ⟨_, _, S2, W2, g, rfl, e10, hs10, hg10, hw10, sn, hwS2, fun j e hj he hge => ?_, hμ⟩
        by_cases hjt : j = t
        · subst hjt
          rw [hz] at he
          cases he
          exact absurd hg hge
        · exact hcl j e (by omega) he hge
    · rintro σ H10 ⟨y5, y9, S2, W2, g, rfl, e10, hs10, hg10, hw10, sn, hwS2, hcl, hμ⟩
      refine ⟨_, hμ, _, _, S2, W2, g, rfl, e10, hs10, hg10, hw10, ⟨sn.nd, sn.lt, sn.ws, sn.wl, sn.x0, sn.rc, fun k hk => ?_⟩, rfl⟩
      rcases sn.cl k hk with q | q | q
      · exact .inl q
      · subst q
        refine .inr (.inr fun e he hge => ?_)
        rw [getD_of hr] at he
        obtain ⟨j, hj⟩ := List.mem_iff_getElem?.mp he
        exact hcl j e (List.getElem?_eq_some_iff.mp hj).1 hj hge
      · exact .inr (.inr q)
  · have hW : W = [] := List.length_eq_zero_iff.mp (by omega)
    subst hW
    walk_at "S"
    refine a_ix (i := 0) (hT.ex ((e03.trans e4).trans e8)) hx0 ?_
    walk_at "S"
    refine home (e4.trans e8) (hv.mt hx0D) ?_
    walk_at "S"
    refine t_nin hs8 ?_
    rw [hg8]
    refine k H8 _ ((e03.trans e4).trans e8) ?_
    rw [← sn_done hv LL ht sn]
    by_cases q : seat Ls (mt (T.getD 0 0)) ∈ S
    · rw [decide_eq_true q]; exact ⟨fun x => Bool.noConfusion x, fun x => absurd q x⟩
    · rw [decide_eq_false q]; exact ⟨fun _ => q, fun _ => rfl⟩

section
variable {P : Program} {w : World} {K : PySem.W.Frag} {mg : Str → Option Value} {base : Heap}
theorem sc_law_parted : FnScope N_law_parted ["_law_drawing_here", "_law_turn_here"] (defScope s_law_parted) := ⟨rfl, rfl, rfl, by decide +kernel, rfl, by decide +kernel, by decide +kernel⟩
theorem cal_law_parted (B : Blt mg) (D : Dfn K mg "_law_parted" s_law_parted ["_law_drawing_here", "_law_turn_here"]) (C_law_lands : Cal P w K mg base CX0 2 "_law_lands" ["_law_drawing_here"] (sp_law_lands K)) (C_law_mate : Cal P w K mg base CX0 1 "_law_mate" ["_law_end"] (sp_law_mate K)) : Cal P w K mg base CX0 3 "_law_parted" ["_law_drawing_here", "_law_turn_here"] (sp_law_parted K) := by
  refine cal_mk D fun f fd F => F.ok sc_law_parted (fun vs H Q E h => len_law_parted h) (fun cdv A outer s H vs Q E hr h => ⟨t_law_parted K, ?_, pure_law_parted vs H Q E h⟩)
  have hu := hu_of hr
  exact (pss_cons (ps_set (i := 2) sc_law_parted.nd rfl (Or.inl rfl) (pe_cal C_law_lands hr (by decide) (by rfl) (pa_cons (pv 0) pa_nil)))
        (pss_cons (ps_set (i := 3) sc_law_parted.nd rfl (Or.inl rfl) pe_dnewK)
        (pss_cons (ps_for PassesOwn.never rfl (pi_range1 (by rfl) B.range_ (pa_cons (pe_callB call_len_seq (by rfl) B.len_ PySem.boot_len (pa_cons (pv 2) pa_nil)) pa_nil)) (pg_name (i := 4) sc_law_parted.nd rfl (Or.inl rfl)) (pss_one (ps_for PassesOwn.never rfl (pi_list (pe_ix ix_list (pv 2) (pv 4) (fun _ _ => rfl))) (pg_name (i := 5) sc_law_parted.nd rfl (Or.inl rfl)) (pss_one (ps_dput hu (pv 3) (pv 5) (pv 4) rfl)))))
        (pss_cons (ps_setLc (i := 6) (own := [("_law_end", 5)]) (g := gName 5) rfl sc_law_parted.nd rfl rfl (sw_true rfl rfl rfl (by decide +kernel)) (pi_list (pv 1)) (blkOk_by (own := [("_law_end", 5)]) (N := N_law_parted) (sc := (defScope s_law_parted)) (by decide +kernel)) (fun _ _ _ _ _ => pg_name (i := 5) sc_law_parted.nd rfl (Or.inl rfl)) (fun _ _ _ _ _ => pts_nil) (fun _ _ _ _ _ => (pe_op op_fdivN (pv 5) pe_int)))
        (pss_cons (ps_set (i := 7) sc_law_parted.nd rfl (Or.inl rfl) (pe_disp (pps_cons (pe_dget hu (pv 3) (pe_ix ix_list (pv 1) pe_int (fun _ _ => rfl)) (fun _ _ => rfl)) pe_bl pps_nil) (by rfl) (by rfl) (fun z => by cases z) (by decide)))
        (pss_cons (ps_set (i := 8) sc_law_parted.nd rfl (Or.inl rfl) (pe_lst (pa_cons (pe_dget hu (pv 3) (pe_ix ix_list (pv 1) pe_int (fun _ _ => rfl)) (fun _ _ => rfl)) pa_nil)))
        (pss_cons (ps_while PassesOwn.never (pt_cmpR op_gt (pe_callB call_len_seq (by rfl) B.len_ PySem.boot_len (pa_cons (pv 8) pa_nil)) pe_int (nomark _)) (pss_one (ps_for PassesOwn.never rfl (pi_list (pe_ix ix_list (pv 2) (pe_bm0 PySem.F.plainAttrs_list PySem.F.slot_list_pop PySem.F.type_list_pop mt_pop (pv 8)) (fun _ _ => rfl))) (pg_name (i := 5) sc_law_parted.nd rfl (Or.inl rfl)) (pss_cons (ps_set (i := 9) sc_law_parted.nd rfl (Or.inl rfl) (pe_dget hu (pv 3) (pe_cal C_law_mate hr (by decide) (by rfl) (pa_cons (pv 5) pa_nil)) (fun _ _ => rfl)))
            (pss_one (ps_if (PW.pt (pw_and (pt_cmpR op_notIn_seq (pe_op op_fdivN (pv 5) pe_int) (pv 6) (by rfl)) (pw_and1 (pt_cmp (pc_dnotin hu (pv 9) (pv 7)))))) (pss_cons (ps_dput hu (pv 7) (pv 9) pe_bl rfl)
              (pss_one (ps_expr (pe_bm PySem.F.plainAttrs_list PySem.F.slot_list_append PySem.F.type_list_append mt_append (pv 8) (pa_cons (pv 9) pa_nil))))) pss_nil))))))
        (pss_one (ps_ret (pe_cmp (pc_dnotin hu (pe_dget hu (pv 3) (pe_cal C_law_mate hr (by decide) (by rfl) (pa_cons (pe_ix ix_list (pv 1) pe_int (fun _ _ => rfl)) pa_nil)) (fun _ _ => rfl)) (pv 7)) rfl))))))))))
end

abbrev s_law_paper : Stmt := top 50
abbrev N_law_paper : List Str := ["_law_drawing_here", "_law_turn_here", "_law_found"]
-- slots: 0 drawing_here, 1 turn_here, 2 found
def t_law_paper (K : PySem.W.Frag) : TS :=
  (tSeq (tIfS (tB (tCal (sp_law_parted K) (tCons (tVar 0) (tCons (tVar 1) tNil)))) (tRet (tOp rIsN (tVar 2) (tC .non))) tNext)
        (tSeq (tIfS (tOr (tNot (tB (tCal (sp_law_wholes K) (tCons (tVar 2) tNil)))) (tNot (tB (tCal (sp_law_is_turn K) (tCons (tVar 0) (tCons (tVar 2) tNil)))))) (tRet (tC (.bl false))) tNext)
        (tRet (tOp rEq (tCal (sp_law_crossing K) (tCons (tVar 0) (tCons (tVar 1) (tCons (tVar 2) tNil)))) (tC (.int 1))))))
theorem len_law_paper {K : PySem.W.Frag} {vs : List V} {H : Hp} {Q : VK} {E : XK} (h : sp_law_paper K vs H Q E) : vs.length = (["_law_drawing_here", "_law_turn_here", "_law_found"] : List Str).length := by
  obtain ⟨a, b, x, D, m, T, rfl, _⟩ := h; rfl
theorem pure_law_paper {K : PySem.W.Frag} (vs : List V) (H : Hp) (Q : VK) (E : XK) (h : sp_law_paper K vs H Q E) : t_law_paper K { nx := fun _ H' => Q .non H', rt := Q } (start N_law_paper vs) H := by
  obtain ⟨a, b, x, D, m, T, rfl, hD, hv, hm, hl, hT, htl, ht, hx, k⟩ := h
  unfold t_law_paper
  walk_at "S"
  refine ⟨a, b, D, m, T, rfl, hD, hv, hm, hl, hT, htl, ht, fun H1 c1 e1 hc1 => ?_⟩
  walk_at "S"
  refine iteB (fun c => ?_) (fun c => ?_)
  · have hp := hc1.mp c
    rcases hx with ⟨rfl, _⟩ | ⟨_, _, _, np, _⟩
    · walk_at "S"
      exact k H1 e1
    · exact absurd hp np
  rcases hx with ⟨rfl, hp⟩ | ⟨f, F, rfl, np, hF, hft, hfc⟩
  · rw [hc1.mpr hp] at c; cases c
  have hfl := turn_len hv hft
  walk_at "S"
  refine ⟨f, F, rfl, hF.ex e1, fun H2 e2 => ?_⟩
  have e02 := e1.trans e2
  walk_at "S"
  refine iteBn (fun c => Bool.noConfusion c) (fun _ => ?_)
  walk_at "S"
  refine ⟨a, f, D, m, F, rfl, hD.ex' e02, hv, by omega, by omega, hF.ex e02, by omega, fun H3 c3 e3 hc3 => ?_⟩
  have e03 := e02.trans e3
  walk_at "S"
  refine iteBn (fun c => ?_) (fun c => ?_)
  · rw [hc3.mpr hft] at c; cases c
  walk_at "S"
  refine ⟨a, b, f, D, m, T, F, rfl, hD.ex' e03, hv, by omega, by omega, hT.ex e03, by omega, ht, hF.ex e03, by omega, hft.wk.rg, fun H4 e4 => ?_⟩
  rw [hfc]
  walk_at "S"
  exact k H4 (e03.trans e4)

section
variable {P : Program} {w : World} {K : PySem.W.Frag} {mg : Str → Option Value} {base : Heap}
theorem sc_law_paper : FnScope N_law_paper ["_law_drawing_here", "_law_turn_here", "_law_found"] (defScope s_law_paper) := ⟨rfl, rfl, rfl, by decide +kernel, rfl, by decide +kernel, by decide +kernel⟩
theorem cal_law_paper (B : Blt mg) (D : Dfn K mg "_law_paper" s_law_paper ["_law_drawing_here", "_law_turn_here", "_law_found"]) (C_law_parted : Cal P w K mg base CX0 3 "_law_parted" ["_law_drawing_here", "_law_turn_here"] (sp_law_parted K)) (C_law_is_turn : Cal P w K mg base CX0 3 "_law_is_turn" ["_law_drawing_here", "_law_ends"] (sp_law_is_turn K)) (C_law_wholes : Cal P w K mg base CX0 1 "_law_wholes" ["_law_found"] (sp_law_wholes K)) (C_law_crossing : Cal P w K mg base CX0 3 "_law_crossing" ["_law_drawing_here", "_law_walk", "_law_other"] (sp_law_crossing K)) : Cal P w K mg base CX0 4 "_law_paper" ["_law_drawing_here", "_law_turn_here", "_law_found"] (sp_law_paper K) := by
  refine cal_mk D fun f fd F => F.ok sc_law_paper (fun vs H Q E h => len_law_paper h) (fun cdv A outer s H vs Q E hr h => ⟨t_law_paper K, ?_, pure_law_paper vs H Q E h⟩)
  have hu := hu_of hr
  exact (pss_cons (ps_if (pt_val (pe_cal C_law_parted hr (by decide) (by rfl) (pa_cons (pv 0) (pa_cons (pv 1) pa_nil)))) (pss_one (ps_ret (pe_cmpR op_isN (pv 2) pe_non (nomark _)))) pss_nil)
        (pss_cons (ps_if (PW.pt (pw_or (pt_not (pt_val (pe_cal C_law_wholes hr (by decide) (by rfl) (pa_cons (pv 2) pa_nil)))) (pw_or1 (pt_not (pt_val (pe_cal C_law_is_turn hr (by decide) (by rfl) (pa_cons (pv 0) (pa_cons (pv 2) pa_nil)))))))) (pss_one (ps_ret pe_bl)) pss_nil)
        (pss_one (ps_ret (pe_cmpR op_eq (pe_cal C_law_crossing hr (by decide) (by rfl) (pa_cons (pv 0) (pa_cons (pv 1) (pa_cons (pv 2) pa_nil)))) pe_int (nomark _))))))
end

/-- at no turn: the exception, of the class at C -/
def sp_no_turn (C : Addr) : Sp := fun vs H Q E => ∃ (a b : Addr) (D : Dr) (m : Nat) (T : List Int), vs = [.ref a, .ref b] ∧ IsD H a D ∧ Valid D m ∧ m ≤ 5000 ∧ D.length ≤ 5000 ∧ IsI H b T ∧ T.length ≤ 10000 ∧ ¬ IsTurn D m T ∧ ∀ H', Ex H H' → E (.ref C) none H'
theorem pe_calS {X : Cx} {j k : Nat} {x : Str} {ps : List Str} {sp : Sp} {E : L2.St → XK} {p pos : Pos} {e : Expr} {es : List Expr} {t : TA} (C : Cal X.prog X.w X.K X.mg X.base (L2.CX X.prog X.w) j x ps sp) (hr : Room k X.A) (hjk : j ≤ k) (hg : Gl X x) (hx : ∀ σ, PassesAt (L2.CX X.prog X.w) X σ (E σ))
    (ha : PA X (e :: es) t) (hn : (x == ("__debug__" : Str)) = false := by decide) (na : starEach (e :: es) X.env = (false, eval e X.env) :: starEach es X.env := by rfl) (nb : ((backTo pos (starEach es X.env)).any fun x => x.1) = false := by rfl) :
    PE X (.Call (.Name x p) (e :: es) [] pos) (tCallS sp E t) := by
  obtain ⟨f, fd, g, kp, b, F⟩ := C.ex
  exact pe_callS F (hr.mono hjk) hg g kp b hx ha hn na nb
/-- the class of the exception, in the written part -/
structure NoR (K : PySem.W.Frag) (mg : Str → Option Value) (C : Addr) : Prop where
  g : mg "NoRound" = some (.ref C)
  q : PySem.W.excIn K C [.type "ValueError", .type "Exception", .type "BaseException", .type "object"] "ValueError.__new__" = true
  kp : PySem.W.keepIn K (.ref C) = true
  b : PySem.W.subIn K (.ref C) (.type "BaseException") = some true
  t : PySem.W.typeIn K (.ref C) = some (.type "type")
def t_ask_roundX (K : PySem.W.Frag) (C : Addr) (E : XK) : TS :=
  (tIfS (tNot (tB (tCal (sp_is_round K) (tCons (tVar 0) (tCons (tVar 1) tNil))))) (fun _ _ H => E (.ref C) none H) tNext)
theorem pure_ask_roundX {K : PySem.W.Frag} {C : Addr} (vs : List V) (H : Hp) (Q : VK) (E : XK) (h : sp_no_turn C vs H Q E) : t_ask_roundX K C E { nx := fun _ H' => Q .non H', rt := Q } (start N_ask_round vs) H := by
  obtain ⟨a, b, D, m, T, rfl, hD, hv, hm, hl, hT, htl, ht, k⟩ := h
  refine s_if ?_
  refine s_not (s_B (s_cal ?_))
  refine s_cons (s_var rfl (s_cons (s_var rfl (s_nil ?_))))
  refine ⟨a, b, D, m, T, rfl, hD, hv, hm, hl, hT, htl, fun H1 c1 e1 hc1 => ?_⟩
  refine ⟨c1, rfl, ?_⟩
  refine iteBn (fun _ => k H1 e1) (fun c2 => absurd (hc1.mp c2) ht)
theorem len_no_turn {C : Addr} {vs : List V} {H : Hp} {Q : VK} {E : XK} (h : sp_no_turn C vs H Q E) : vs.length = (["drawing", "ends"] : List Str).length := by
  obtain ⟨a, b, D, m, T, rfl, _⟩ := h; rfl
section
variable {P : Program} {w : World} {K : PySem.W.Frag} {mg : Str → Option Value} {base : Heap} {C : Addr}
theorem cal_ask_roundX (N : NoR K mg C) (D : Dfn K mg "ask_round" s_ask_round ["drawing", "ends"]) (C_is_round : Cal P w K mg base CX0 4 "is_round" ["drawing", "ends"] (sp_is_round K)) : Cal P w K mg base (L2.CX P w) 5 "ask_round" ["drawing", "ends"] (sp_no_turn C) := by
  refine cal_mk D fun f fd F => F.okX sc_ask_round (fun vs H Q E h => len_no_turn h) (fun cdv A outer s H vs Q E hr h => ⟨t_ask_roundX K C E, ?_, pure_ask_roundX vs H Q E h⟩)
  exact (pss_one (ps_if (pt_not (pt_val (pe_cal C_is_round hr (by decide) (by rfl) (pa_cons (pv 0) (pa_cons (pv 1) pa_nil))))) (pss_one (ps_raise rfl (takes_of rfl rfl rfl rfl) (pmk_own PySem.F.excBase_ValueError N.q N.g N.kp (raises_own N.b N.t) (by rfl)))) pss_nil))
end
theorem s_calS {sp : Sp} {E : L2.St → XK} {tt : TA} {σ : L2.St} {H : Hp} {Q : VK} (k : tt σ H fun vs H1 => sp vs H1 Q (E σ)) : tCallS sp E tt σ H Q := k
def t_turn_overX (C : Addr) (E : XK) : TS :=
  (tSeq (tDrop (tCallS (sp_no_turn C) (WE (fun cls d _ H => E cls d H)) (tCons (tVar 0) (tCons (tVar 1) tNil)))) (tSeq tNever (tSeq tNever (tSeq tNever (tSeq tNever (tSeq tNever tNever))))))
theorem pure_turn_overX {C : Addr} (vs : List V) (H : Hp) (Q : VK) (E : XK) (h : sp_no_turn C vs H Q E) : t_turn_overX C E { nx := fun _ H' => Q .non H', rt := Q } (start N_turn_over vs) H := by
  obtain ⟨a, b, D, m, T, rfl, hD, hv, hm, hl, hT, htl, ht, k⟩ := h
  refine s_seq (s_drop (s_calS ?_))
  refine s_cons (s_var rfl (s_cons (s_var rfl (s_nil ?_))))
  exact ⟨a, b, D, m, T, rfl, hD, hv, hm, hl, hT, htl, ht, k⟩
theorem len_no_turn2 {C : Addr} {vs : List V} {H : Hp} {Q : VK} {E : XK} (h : sp_no_turn C vs H Q E) : vs.length = (["drawing", "turn"] : List Str).length := by
  obtain ⟨a, b, D, m, T, rfl, _⟩ := h; rfl
section
variable {P : Program} {w : World} {K : PySem.W.Frag} {mg : Str → Option Value} {base : Heap} {C : Addr}
theorem cal_turn_overX (D : Dfn K mg "turn_over" s_turn_over ["drawing", "turn"]) (C_ask : Cal P w K mg base (L2.CX P w) 5 "ask_round" ["drawing", "ends"] (sp_no_turn C)) : Cal P w K mg base (L2.CX P w) 6 "turn_over" ["drawing", "turn"] (sp_no_turn C) := by
  refine cal_mk D fun f fd F => F.okX sc_turn_over (fun vs H Q E h => len_no_turn2 h) (fun cdv A outer s H vs Q E hr h => ⟨t_turn_overX C E, ?_, pure_turn_overX vs H Q E h⟩)
  exact (pss_cons (ps_expr (pe_calS C_ask hr (by decide) (by rfl) (fun σ => passAt (takes_of rfl rfl rfl rfl) σ) (pa_cons (pv 0) (pa_cons (pv 1) pa_nil))))
    (pss_cons ps_never (pss_cons ps_never (pss_cons ps_never (pss_cons ps_never (pss_cons ps_never (pss_one ps_never)))))))
end

abbrev s_law_refused : Stmt := top 51
abbrev N_law_refused : List Str := ["_law_drawing_here", "_law_turn_here", "_law_handed", "_law_word", "e", "_law_row"]
-- slots: 0 drawing_here, 1 turn_here, 2 handed, 3 word, 4 e, 5 row

theorem len_law_refused {K : PySem.W.Frag} {vs : List V} {H : Hp} {Q : VK} {E : XK} (h : sp_law_refused K vs H Q E) : vs.length = (["_law_drawing_here", "_law_turn_here"] : List Str).length := by
  obtain ⟨a, b, D, m, T, rfl, _⟩ := h; rfl
/-! ### data -/
def rowP (r : List Int) : PyData := .list (r.map PyData.int)
def drP (D : Dr) : PyData := .list (D.map rowP)
theorem dp_ints {K : PySem.W.Frag} {H : Hp} : ∀ ns : List Int, DpAll K H (ns.map V.int) (ns.map PyData.int)
  | [] => .nil
  | n :: ns => .cons (.int n) (dp_ints ns)
theorem dp_I {K : PySem.W.Frag} {H : Hp} {a : Addr} {ns : List Int} (h : IsI H a ns) : Dp K H (.ref a) (rowP ns) := .lst h.sq (dp_ints ns)
theorem dp_rows {K : PySem.W.Frag} {H : Hp} : ∀ {ps : List Addr} {D : Dr}, ps.length = D.length → (∀ (i : Nat) (p : Addr) (r : List Int), ps[i]? = some p → D[i]? = some r → IsI H p r) → DpAll K H (ps.map V.ref) (D.map rowP)
  | [], [], _, _ => .nil
  | p :: ps, r :: D, hl, h => .cons (dp_I (h 0 p r rfl rfl)) (dp_rows (by simpa using hl) fun i p r hp hr => h (i + 1) p r hp hr)
  | [], _ :: _, hl, _ => by simp at hl
  | _ :: _, [], hl, _ => by simp at hl
theorem dp_D {K : PySem.W.Frag} {H : Hp} {a : Addr} {D : Dr} (h : IsD H a D) : Dp K H (.ref a) (drP D) := by
  obtain ⟨ps, h1, h2, h3⟩ := h.ex
  exact .lst (sq h1) (dp_rows h2 h3)
theorem dp_pair {K : PySem.W.Frag} {H : Hp} {q a b : Addr} {D : Dr} {T : List Int} (h : H q = some (.lst [.ref a, .ref b])) (hD : IsD H a D) (hT : IsI H b T) : Dp K H (.ref q) (.list [drP D, rowP T]) :=
  .lst (sq h) (.cons (dp_D hD) (.cons (dp_I hT) .nil))
theorem lay_ints : ∀ ns : List Int, PyData.canLayAll0 (ns.map PyData.int) = true ∧ PyData.depthAll (ns.map PyData.int) = 0
  | [] => ⟨rfl, rfl⟩
  | n :: ns => by
    obtain ⟨h1, h2⟩ := lay_ints ns
    refine ⟨?_, ?_⟩
    · show (PyData.canLay0 (.int n) && PyData.canLayAll0 (ns.map PyData.int)) = true
      rw [h1]; rfl
    · show max (PyData.depth (.int n)) (PyData.depthAll (ns.map PyData.int)) = 0
      rw [h2]; rfl
theorem lay_row (r : List Int) : PyData.canLay0 (rowP r) = true ∧ PyData.depth (rowP r) = 1 := by
  obtain ⟨h1, h2⟩ := lay_ints r
  refine ⟨?_, ?_⟩
  · show PyData.canLayAll0 (r.map PyData.int) = true
    exact h1
  · show PyData.depthAll (r.map PyData.int) + 1 = 1
    rw [h2]
theorem lay_rows : ∀ D : Dr, PyData.canLayAll0 (D.map rowP) = true ∧ PyData.depthAll (D.map rowP) ≤ 1
  | [] => ⟨rfl, Nat.zero_le _⟩
  | r :: D => by
    obtain ⟨h1, h2⟩ := lay_rows D
    obtain ⟨g1, g2⟩ := lay_row r
    refine ⟨?_, ?_⟩
    · show (PyData.canLay0 (rowP r) && PyData.canLayAll0 (D.map rowP)) = true
      rw [h1, g1]; rfl
    · show max (PyData.depth (rowP r)) (PyData.depthAll (D.map rowP)) ≤ 1
      omega
theorem lay_pair (D : Dr) (T : List Int) : SeqAt.shaped (.list [drP D, rowP T]) = true := by
  obtain ⟨h1, h2⟩ := lay_rows D
  obtain ⟨g1, g2⟩ := lay_row T
  refine Bool.and_eq_true_iff.mpr ⟨?_, decide_eq_true ?_⟩
  · show (PyData.canLayAll0 (D.map rowP) && (PyData.canLay0 (rowP T) && true)) = true
    rw [h1, g1]; rfl
  · show max (PyData.depthAll (D.map rowP) + 1) (max (PyData.depth (rowP T)) 0) + 1 ≤ 64
    omega
theorem pair_eqv (D : Dr) (T : List Int) : PyData.eqv (.list [drP D, rowP T]) (.list [drP D, rowP T]) = true := SeqAt.eqv_refl _ (SeqAt.canLay_of_shaped (lay_pair D T))
/-! ### the suite -/
structure ExF (K : PySem.W.Frag) (mg : Str → Option Value) (C CF CW : Addr) : Prop where
  nr : NoR K mg C
  gF : mg "FloorError" = some (.ref CF)
  gW : mg "NoWalk" = some (.ref CW)
  ec : ExcC K C
  te : PySem.W.exmOne K (.ref C) (.ref CF) = some true
  k1 : PySem.W.kitOne K (.ref C) (.ref C) = some true
  k2 : PySem.W.kitOne K (.ref C) (.type "ValueError") = some true
  k3 : PySem.W.kitOne K (.ref C) (.ref CW) = some false
theorem pe_given {X : Cx} {e : Expr} {t : TE} {p : Prop} (h : p → PE X e t) : PE X e (fun σ H Q => p ∧ t σ H Q) := ⟨fun pins s σ H Q I q => (h q.1).run pins s σ H Q I q.2⟩
def t_word (K : PySem.W.Frag) (C CW : Addr) (a : Addr) : TE := tLst (tCons (tCB (rIsE K C a) (tCons (tVar 4) (tCons (tC (.ref C)) tNil))) (tCons (tCB (rIsE K C a) (tCons (tVar 4) (tCons (tC (.ty "ValueError")) tNil))) (tCons (tCB (rIsE K C a) (tCons (tVar 4) (tCons (tC (.ref CW)) tNil))) tNil)))
def t_suite (K : PySem.W.Frag) (C CW : Addr) : Addr → Value → Option Addr → TS := fun a cls d => tAsg (fun σ H Q => (cls = .ref C ∧ d = none) ∧ t_word K C CW a σ H Q) (gName 3)
def t_tryB (K : PySem.W.Frag) (C : Addr) (W : WX) : TS := tDrop (tCallS (sp_no_turn C) (WE W) (tCons (tOp (rIxL K) (tVar 2) (tC (.int 0))) (tCons (tOp (rIxL K) (tVar 2) (tC (.int 1))) tNil)))
def t_try (K : PySem.W.Frag) (C CF CW : Addr) : TS := fun D σ H => t_tryB K C (wAs K (.ref CF) 4 (t_suite K C CW) (fun _ _ _ _ => False) D) D σ H
theorem s_try {K : PySem.W.Frag} {C CF CW : Addr} {D : Ends} {σ : L2.St} {H : Hp} (k : t_tryB K C (wAs K (.ref CF) 4 (t_suite K C CW) (fun _ _ _ _ => False) D) D σ H) : t_try K C CF CW D σ H := k
def t_law_refused' (K : PySem.W.Frag) (C CF CW : Addr) : TS :=
  (tSeq (tAsg (tLst (tCons (tLc (iList K (tVar 0)) (gName 5) tYes (tCB (bList K) (tCons (tVar 5) tNil)) [5]) (tCons (tCB (bList K) (tCons (tVar 1) tNil)) tNil))) (gName 2))
        (tSeq (tAsg (tLst tNil) (gName 3))
        (tSeq (t_try K C CF CW)
        (tRet (tAndV (tOp (rEqD K) (tVar 3) (tLst (tCons (tC (.bl true)) (tCons (tC (.bl true)) (tCons (tC (.bl false)) tNil))))) (tOp (rEqD K) (tVar 2) (tLst (tCons (tVar 0) (tCons (tVar 1) tNil)))))))))
theorem word_eq {K : PySem.W.Frag} {H : Hp} {p q : Addr} {Q : VK} (h : H p = some (.lst [.bl true, .bl true, .bl false])) (h' : H q = some (.lst [.bl true, .bl true, .bl false])) (k : Q (.bl true) H) : rEqD K (.ref p) (.ref q) H Q :=
  ⟨.list [.bool true, .bool true, .bool false], .list [.bool true, .bool true, .bool false], .lst (sq h) (.cons (.bl true) (.cons (.bl true) (.cons (.bl false) .nil))), .lst (sq h') (.cons (.bl true) (.cons (.bl true) (.cons (.bl false) .nil))), by decide +kernel, by decide +kernel, by
    rw [SeqAt.eqv_refl _ (by decide +kernel)]; exact k⟩
theorem pure_law_refused {K : PySem.W.Frag} {mg : Str → Option Value} {C CF CW : Addr} (X : ExF K mg C CF CW) (vs : List V) (H : Hp) (Q : VK) (E : XK) (h : sp_law_refused K vs H Q E) : t_law_refused' K C CF CW { nx := fun _ H' => Q .non H', rt := Q } (start N_law_refused vs) H := by
  obtain ⟨a, b, D, m, T, rfl, hD, hv, hm, hl, hT, htl, ht, k⟩ := h
  unfold t_law_refused'
  walk_at "S"
  refine lcDD hD (by omega) id (fun r hr p H1 hp e1 R rr => ?_) fun hd H1 e1 n1 h1 => ?_
  · walk_at "S"
    exact a_list hp fun q H2 e2 n2 h2 => rr q H2 e2 n2 h2
  rw [List.map_id] at h1
  walk_at "S"
  refine a_list (hT.ex e1) fun ht' H2 e2 n2 h2 => ?_
  walk_at "S"
  refine newL (by show 2 ≤ 1000000; decide) fun hp H3 e3 n3 h3 => ?_
  walk_at "S"
  refine newL (by show 0 ≤ 1000000; decide) fun wp H4 e4 n4 h4 => ?_
  have e04 := ((e1.trans e2).trans e3).trans e4
  walk_at "S"
  refine s_try ?_
  refine s_drop (s_calS ?_)
  walk_at "S"
  refine ⟨_, _, _, _, rfl, rfl, sq (e4 _ _ h3), atI_nat (j := 0) rfl, ?_⟩
  walk_at "S"
  refine ⟨_, _, _, _, rfl, rfl, sq (e4 _ _ h3), atI_nat (j := 1) rfl, ?_⟩
  walk_at "S"
  refine ⟨hd, ht', D, m, T, rfl, h1.ex' ((e2.trans e3).trans e4), hv, by omega, by omega, h2.ex (e3.trans e4), by omega, ht, fun H5 e5 => ?_⟩
  refine ⟨true, X.te, fun _ ex nx => ?_, fun q => Bool.noConfusion q⟩
  unfold t_suite
  walk_at "S"
  refine ⟨⟨rfl, rfl⟩, ?_⟩
  unfold t_word
  walk_at "S"
  refine ⟨_, _, true, rfl, fun u r => r, X.k1, ?_⟩
  walk_at "S"
  refine ⟨_, _, true, rfl, fun u r => r, X.k2, ?_⟩
  walk_at "S"
  refine ⟨_, _, false, rfl, fun u r => r, X.k3, ?_⟩
  walk_at "S"
  refine newL (by show 3 ≤ 1000000; decide) fun w2 H6 e6 n6 h6 => ?_
  walk_at "S"
  refine newL (by show 3 ≤ 1000000; decide) fun w3 H7 e7 n7 h7 => ?_
  refine word_eq (e7 _ _ h6) h7 ?_
  walk_at "S"
  rw [if_pos rfl]
  walk_at "S"
  refine newL (by show 2 ≤ 1000000; decide) fun p2 H8 e8 n8 h8 => ?_
  have e38 : Ex H3 H8 := ((e4.trans e5).trans (e6.trans e7)).trans e8
  have e08 : Ex H H8 := ((e1.trans e2).trans e3).trans e38
  refine ⟨_, _, dp_pair (e38 _ _ h3) (h1.ex' ((e2.trans e3).trans e38)) (h2.ex (e3.trans e38)), dp_pair h8 (hD.ex' e08) (hT.ex e08), lay_pair D T, lay_pair D T, ?_⟩
  rw [pair_eqv]
  exact k H8 e08

section
variable {P : Program} {w : World} {K : PySem.W.Frag} {mg : Str → Option Value} {base : Heap}
theorem sc_law_refused : FnScope N_law_refused ["_law_drawing_here", "_law_turn_here"] (defScope s_law_refused) := ⟨rfl, rfl, rfl, by decide +kernel, rfl, by decide +kernel, by decide +kernel⟩
theorem cal_law_refused {C CF CW : Addr} (XF : ExF K mg C CF CW) (B : Blt mg) (D : Dfn K mg "_law_refused" s_law_refused ["_law_drawing_here", "_law_turn_here"]) (C_turn_over : Cal P w K mg base (L2.CX P w) 6 "turn_over" ["drawing", "turn"] (sp_no_turn C)) : Cal P w K mg base CX0 7 "_law_refused" ["_law_drawing_here", "_law_turn_here"] (sp_law_refused K) := by
  refine cal_mk D fun f fd F => F.ok sc_law_refused (fun vs H Q E h => len_law_refused h) (fun cdv A outer s H vs Q E hr h => ⟨t_law_refused' K C CF CW, ?_, pure_law_refused XF vs H Q E h⟩)
  have hu := hu_of hr
  exact (pss_cons (ps_set (i := 2) sc_law_refused.nd rfl (Or.inl rfl) (pe_lst (pa_cons (pe_lc (own := [("_law_row", 5)]) (g := gName 5) rfl sc_law_refused.nd (pi_list (pv 0)) (blkOk_by (own := [("_law_row", 5)]) (N := N_law_refused) (sc := (defScope s_law_refused)) (by decide +kernel)) (fun _ _ _ _ _ => pg_name (i := 5) sc_law_refused.nd rfl (Or.inl rfl)) (fun _ _ _ _ _ => pts_nil) (fun _ _ _ _ _ => (pe_callTy call_list_of (by rfl) B.list_ (by decide +kernel) (pa_cons (pv 5) pa_nil)))) (pa_cons (pe_callTy call_list_of (by rfl) B.list_ (by decide +kernel) (pa_cons (pv 1) pa_nil)) pa_nil))))
        (pss_cons (ps_set (i := 3) sc_law_refused.nd rfl (Or.inl rfl) (pe_lst pa_nil))
        (pss_cons (ps_try_as (i := 4) (tb := t_tryB K C) (ts := t_suite K C CW) (Wout := fun _ _ _ _ => False) rfl rfl sc_law_refused.nd rfl rfl ⟨rfl, by decide, .inl XF.gF⟩ takes0
          (fun W pn xe tk _ => pss_one (ps_expr (pe_calS C_turn_over hr (by decide) (by rfl) (fun σ => passAt tk σ) (pa_cons (pe_ix ix_list (pv 2) pe_int (fun _ _ => rfl)) (pa_cons (pe_ix ix_list (pv 2) pe_int (fun _ _ => rfl)) pa_nil)))))
          (fun a oe cls d pn hz hf => pss_one (ps_set (i := 3) sc_law_refused.nd rfl (Or.inl rfl) (pe_given fun ⟨e1, e2⟩ => by
            subst e1 e2
            exact pe_lst (pa_cons (pe_callB (call_isE XF.ec hz hf) (by rfl) B.isinstance_ (by decide +kernel) (pa_cons (pv 4) (pa_cons (pe_glob (by rfl) XF.nr.g rfl) pa_nil)))
              (pa_cons (pe_callB (call_isE XF.ec hz hf) (by rfl) B.isinstance_ (by decide +kernel) (pa_cons (pv 4) (pa_cons (pe_bltn (v := .ty "ValueError") (by rfl) B.value_ (by decide +kernel) rfl) pa_nil)))
              (pa_cons (pe_callB (call_isE XF.ec hz hf) (by rfl) B.isinstance_ (by decide +kernel) (pa_cons (pv 4) (pa_cons (pe_glob (by rfl) XF.gW rfl) pa_nil))) pa_nil)))))))
        (pss_one (ps_ret (pe_and (pe_cmpR (op_eqD hr.units) (pv 3) (pe_lst (pa_cons pe_bl (pa_cons pe_bl (pa_cons pe_bl pa_nil)))) (nomark _)) (pe_one (pe_cmpR (op_eqD hr.units) (pv 2) (pe_lst (pa_cons (pv 0) (pa_cons (pv 1) pa_nil))) (nomark _)))))))))

end

abbrev s_law : Stmt := top 52
abbrev N_law : List Str := ["_law_script", "_law_choice", "_law_spoil", "_law_large", "_law_one", "_law_two", "_law_drawing_here", "_law_turn_here", "_law_ends", "_law_handed", "_law_found", "_law_about_here", "_law_row"]
-- slots: 0 script, 1 choice, 2 spoil, 3 large, 4 one, 5 two, 6 drawing_here, 7 turn_here, 8 ends, 9 handed, 10 found, 11 about_here, 12 row
def t_law (K : PySem.W.Frag) : TS :=
  (tSeq (tAsg (tCal (sp_law_draws K) (tCons (tCal (sp_law_cell K) (tCons (tVar 0) (tCons (tC (.int 0)) tNil))) (tCons (tLst (tCons (tC (.int 8)) (tCons (tC (.int 8)) (tCons (tC (.int 16)) (tCons (tC (.int 60)) (tCons (tC (.int 60)) tNil)))))) tNil))) (gUnl K 5 (gCons (gName 1) (gCons (gName 2) (gCons (gName 3) (gCons (gName 4) (gCons (gName 5) gNil)))))))
        (tSeq (tAsg (tCal (sp_law_some K) (tCons (tVar 0) (tCons (tVar 1) tNil))) (gName 6))
        (tSeq (tIfS (tTest (tOp rEq (tVar 3) (tC (.int 0)))) (tAsg (tCal (sp_law_renamed K) (tCons (tCal (sp_law_crossed K) (tCons (tOp rAdd (tC (.int 1)) (tVar 4)) (tCons (tOp rAdd (tC (.int 1)) (tVar 5)) tNil))) (tCons (tOp rAdd (tOp rAdd (tC (.int 2)) (tVar 4)) (tVar 5)) (tCons (tCal (sp_law_cell K) (tCons (tVar 0) (tCons (tC (.int 2)) tNil))) tNil)))) (gName 6)) tNext)
        (tSeq (tAsg (tCal (sp_law_turn K) (tCons (tVar 6) (tCons (tCal (sp_law_cell K) (tCons (tVar 0) (tCons (tC (.int 5)) tNil))) tNil))) (gName 7))
        (tSeq (tIfS (tTest (tOp rEq (tVar 2) (tC (.int 1)))) (tSeq (tAsg (tCB (rSum K) (tCons (tLc (iList K (tVar 6)) (gName 12) tYes (tCB (bLen K) (tCons (tVar 12) tNil)) [12]) tNil)) (gName 8))
          (tAsg (tCal (sp_law_spoilt K) (tCons (tVar 7) (tCons (tVar 8) (tCons (tCal (sp_law_draws K) (tCons (tCal (sp_law_cell K) (tCons (tVar 0) (tCons (tC (.int 6)) tNil))) (tCons (tLst (tCons (tC (.int 5)) (tCons (tC (.int 60)) (tCons (tC (.int 60)) (tCons (tC (.int 60)) tNil))))) tNil))) tNil)))) (gName 7))) tNext)
        (tSeq (tIfS (tNot (tB (tCal (sp_law_is_turn K) (tCons (tVar 6) (tCons (tVar 7) tNil))))) (tRet (tCal (sp_law_refused K) (tCons (tVar 6) (tCons (tVar 7) tNil)))) tNext)
        (tSeq (tAsg (tLst (tCons (tLc (iList K (tVar 6)) (gName 12) tYes (tCB (bList K) (tCons (tVar 12) tNil)) [12]) (tCons (tCB (bList K) (tCons (tVar 7) tNil)) tNil))) (gName 9))
        (tSeq (tAsg (tCal (sp_turn_over K) (tCons (tOp (rIxL K) (tVar 9) (tC (.int 0))) (tCons (tOp (rIxL K) (tVar 9) (tC (.int 1))) tNil))) (gName 10))
        (tSeq (tIfS (tOr (tTest (tOp (rNeD K) (tVar 9) (tLst (tCons (tVar 6) (tCons (tVar 7) tNil))))) (tNot (tB (tCal (sp_law_paper K) (tCons (tVar 6) (tCons (tVar 7) (tCons (tVar 10) tNil))))))) (tRet (tC (.bl false))) tNext)
        (tSeq (tIfS (tTest (tOp rNotN (tVar 10) (tC .non))) (tDrop (tBM K "list" rAppend (tVar 10) (tCons (tC (.int 0)) tNil))) tNext)
        (tSeq (tAsg (tCal (sp_law_settled K) (tCons (tLc (iList K (tVar 6)) (gName 12) tYes (tRevL K (tVar 12)) [12]) tNil)) (gName 11))
        (tSeq (tIfS (tTest (tOp rGt (tVar 3) (tC (.int 0)))) (tSeq (tAsg (tCal (sp_turn_over K) (tCons (tLc (iList K (tVar 11)) (gName 12) tYes (tCB (bList K) (tCons (tVar 12) tNil)) [12]) (tCons (tCB (bList K) (tCons (tVar 7) tNil)) tNil))) (gName 10))
          (tIfS (tNot (tB (tCal (sp_law_paper K) (tCons (tVar 11) (tCons (tVar 7) (tCons (tVar 10) tNil)))))) (tRet (tC (.bl false))) tNext)) tNext)
        (tRet (tCal (sp_law_paper K) (tCons (tVar 6) (tCons (tVar 7) (tCons (tCal (sp_turn_over K) (tCons (tOp (rIxL K) (tVar 9) (tC (.int 0))) (tCons (tOp (rIxL K) (tVar 9) (tC (.int 1))) tNil))) tNil)))))))))))))))))
theorem len_law {K : PySem.W.Frag} {vs : List V} {H : Hp} {Q : VK} {E : XK} (h : sp_law K vs H Q E) : vs.length = (["_law_script"] : List Str).length := by
  obtain ⟨a, ns, rfl, _⟩ := h; rfl
theorem rows_seat {D D' : Dr} {m : Nat} (hv : Valid D m) (h : Rows D' D) {e : Int} (he : e ∈ D.flatten) : seat D' e = seat D e := by
  obtain ⟨r, hr, hm⟩ := seat_at he
  have hlt := (List.getElem?_eq_some_iff.mp hr).1
  have hr' : D'[seat D e]? = some (D'[seat D e]'(by rw [h.1]; exact hlt)) := List.getElem?_eq_getElem (by rw [h.1]; exact hlt)
  exact seat_of (rows_valid hv h).nd hr' ((h.2 _ _ _ hr hr').mem_iff.mpr hm)
theorem rows_turn {D D' : Dr} {m : Nat} {T : List Int} (hv : Valid D m) (h : Rows D' D) (t : IsTurn D m T) : IsTurn D' m T := by
  have hs : ∀ e ∈ T, seat D' e = seat D e := fun e he => rows_seat hv h (hv.mem (t.wk.rg e he).1 (t.wk.rg e he).2)
  refine ⟨t.ne, ⟨t.wk.rg, fun i hi => ?_⟩, ?_, t.ts⟩
  · have hp := t.wk.rg _ (lprv_mem hi)
    have hg : T.getD i 0 ∈ T := by rw [List.getD_eq_getElem?_getD, List.getElem?_eq_getElem hi]; exact List.getElem_mem hi
    rw [rows_seat hv h (hv.mem (mt_lo hp.1) (mt_hi hp.2)), hs _ hg]
    exact t.wk.st i hi
  · rw [List.map_congr_left hs]
    exact t.ps
theorem rows_rev (D : Dr) : Rows (D.map List.reverse) D := by
  refine ⟨List.length_map _, fun i r r' hr hr' => ?_⟩
  rw [List.getElem?_map, hr] at hr'
  cases hr'
  exact List.reverse_perm r
theorem rows_trans {A B C : Dr} (h : Rows A B) (h' : Rows B C) : Rows A C := by
  refine ⟨h.1.trans h'.1, fun i r r' hr hr' => ?_⟩
  have hb : i < B.length := by rw [h'.1]; exact (List.getElem?_eq_some_iff.mp hr).1
  exact (h.2 i _ r' (List.getElem?_eq_getElem hb) hr').trans (h'.2 i r _ hr (List.getElem?_eq_getElem hb))
theorem sum_lens : ∀ D : Dr, (D.map fun r => ((r.length : Nat) : Int)).sum = ((D.flatten.length : Nat) : Int)
  | [] => rfl
  | r :: D => by rw [List.map_cons, List.sum_cons, sum_lens D, List.flatten_cons, List.length_append, Int.natCast_add]
/-- what turn_over told -/
def Fnd (D : Dr) (m : Nat) (T : List Int) (H H' : Hp) (x : V) : Prop := (x = .non ∧ Parted D T) ∨ ∃ c F, x = .ref c ∧ H c = none ∧ IsI H' c F ∧ ¬ Parted D T ∧ IsTurn D m F ∧ crossing D T F = 1
theorem over_call {K : PySem.W.Frag} {H : Hp} {Q : VK} {E : XK} {a b : Addr} {D : Dr} {m : Nat} {T : List Int} (hD : IsD H a D) (hv : Valid D m) (hm : m ≤ 1000) (hl : D.length ≤ 1000) (hT : IsI H b T) (htl : T.length ≤ 10000) (ht : IsTurn D m T)
    (k : ∀ x H', Ex H H' → Fnd D m T H H' x → Q x H') : sp_turn_over K [.ref a, .ref b] H Q E :=
  ⟨a, b, D, m, T, rfl, hD, hv, hm, hl, hT, htl, ht, fun hp H' e => k _ H' e (.inl ⟨rfl, hp⟩), fun hp H' c F e n hF ⟨h1, h2⟩ => k _ H' e (.inr ⟨c, F, rfl, n, hF, hp, h1, h2⟩)⟩
theorem Fnd.paper {D : Dr} {m : Nat} {T : List Int} {H H' H2 : Hp} {x : V} (h : Fnd D m T H H' x) (e : Ex H' H2) : (x = .non ∧ Parted D T) ∨ ∃ c F, x = .ref c ∧ ¬ Parted D T ∧ IsI H2 c F ∧ IsTurn D m F ∧ crossing D T F = 1 := by
  rcases h with h | ⟨c, F, h1, h2, h3, h4, h5, h6⟩
  · exact .inl h
  · exact .inr ⟨c, F, h1, h4, h3.ex e, h5, h6⟩
theorem pure_law {K : PySem.W.Frag} (vs : List V) (H : Hp) (Q : VK) (E : XK) (h : sp_law K vs H Q E) : t_law K { nx := fun _ H' => Q .non H', rt := Q } (start N_law vs) H := by
  obtain ⟨a, ns, rfl, hS, hl, k⟩ := h
  unfold t_law
  walk_at "S"
  refine ⟨a, ns, 0, rfl, hS, hl, by decide, fun c0 => ?_⟩
  walk_at "S"
  refine newL (by show 5 ≤ 1000000; decide) fun p1 H1 e1 n1 h1 => ?_
  walk_at "S"
  refine ⟨c0, p1, [8, 8, 16, 60, 60], rfl, h1, fun s hs => by simp at hs; omega, by show 5 ≤ 100000; decide, fun H2 d1 ds e2 _ hd1 hdr => ?_⟩
  obtain ⟨ch, r1, rfl, hch, hdr⟩ := drawn_cons hdr
  obtain ⟨sp, r2, rfl, hsp, hdr⟩ := drawn_cons hdr
  obtain ⟨la, r3, rfl, hla, hdr⟩ := drawn_cons hdr
  obtain ⟨on, r4, rfl, hon, hdr⟩ := drawn_cons hdr
  obtain ⟨tw, r5, rfl, htw, hdr⟩ := drawn_cons hdr
  have := drawn_nil hdr
  subst this
  have e02 := e1.trans e2
  refine ⟨_, _, rfl, hd1.sq, rfl, _, _, rfl, _, _, rfl, _, _, rfl, _, _, rfl, _, _, rfl, rfl, ?_⟩
  walk_at "S"
  refine ⟨a, ns, _, rfl, Evl.ex_l e02 hS, hl, by omega, by omega, fun H3 dp D e3 n3 hD hG => ?_⟩
  have e03 := e02.trans e3
  walk_at "S"
  refine iteJ (fun σ H' => ∃ (dp : Addr) (D : Dr), σ = [some (.ref a), some (.int (ch : Int)), some (.int (sp : Int)), some (.int (la : Int)), some (.int (on : Int)), some (.int (tw : Int)), some (.ref dp), none, none, none, none, none, none] ∧ Ex H H' ∧ IsD H' dp D ∧ Good D) ?_ ?_ ?_
  · intro N hN _
    walk_at "S"
    rw [show (1 : Int) + (on : Int) = ((1 + on : Nat) : Int) by omega, show (1 : Int) + (tw : Int) = ((1 + tw : Nat) : Int) by omega]
    refine ⟨1 + on, 1 + tw, rfl, by omega, by omega, by omega, by omega, fun H4 cp C e4 n4 hC ⟨hv, hl4⟩ => ?_⟩
    walk_at "S"
    refine ⟨a, ns, 2, rfl, Evl.ex_l (e03.trans e4) hS, hl, by decide, fun c2 => ?_⟩
    walk_at "S"
    rw [show (2 : Int) + (on : Int) + (tw : Int) = ((1 + on + (1 + tw) : Nat) : Int) by omega]
    refine ⟨cp, C, _, c2, rfl, hC, hv, by omega, by omega, fun H5 dp D e5 n5 hD hG => ?_⟩
    exact hN _ _ ⟨dp, D, rfl, (e03.trans e4).trans e5, hD, hG⟩
  · intro N hN _
    exact hN _ _ ⟨dp, D, rfl, e03, hD, hG⟩
  rintro σ H6 ⟨dp, D, rfl, e6, hD, ⟨m, hv, hm, hl1⟩⟩
  walk_at "S"
  refine ⟨a, ns, 5, rfl, Evl.ex_l e6 hS, hl, by decide, fun c5 => ?_⟩
  walk_at "S"
  refine ⟨dp, D, m, c5, rfl, hD, hv, hm, hl1, fun H7 tp T e7 n7 hT hTl => ?_⟩
  have hTl : T.length ≤ 2000 := hTl
  walk_at "S"
  refine iteJ (fun σ H' => ∃ (y8 : Option V) (tp : Addr) (T : List Int), σ = [some (.ref a), some (.int (ch : Int)), some (.int (sp : Int)), some (.int (la : Int)), some (.int (on : Int)), some (.int (tw : Int)), some (.ref dp), some (.ref tp), y8, none, none, none, none] ∧ Ex H6 H' ∧ IsI H' tp T ∧ T.length ≤ 3000) ?_ ?_ ?_
  · intro N hN _
    walk_at "S"
    refine lcD (hD.ex' e7) (by omega) (fun r => ((r.length : Nat) : Int)) (fun r hr p H8 hp e8 R rr => ?_) fun lp H8 e8 n8 h8 => ?_
    · walk_at "S"
      exact a_len hp (rr H8 (Ex.refl H8))
    walk_at "S"
    refine a_sum h8 ?_
    rw [sum_lens, hv.ln]
    have e68 := e7.trans e8
    walk_at "S"
    refine ⟨a, ns, 6, rfl, Evl.ex_l (e6.trans e68) hS, hl, by decide, fun c6 => ?_⟩
    walk_at "S"
    refine newL (by show 4 ≤ 1000000; decide) fun p2 H9 e9 n9 h9 => ?_
    walk_at "S"
    refine ⟨c6, p2, [5, 60, 60, 60], rfl, h9, fun s hs => by simp at hs; omega, by show 4 ≤ 100000; decide, fun H10 d2 ds e10 _ hd2 hdr => ?_⟩
    obtain ⟨hw, s1, rfl, hhw, hdr⟩ := drawn_cons hdr
    obtain ⟨x, s2, rfl, hx, hdr⟩ := drawn_cons hdr
    obtain ⟨y, s3, rfl, hy, hdr⟩ := drawn_cons hdr
    obtain ⟨z, s4, rfl, hz, hdr⟩ := drawn_cons hdr
    have := drawn_nil hdr
    subst this
    walk_at "S"
    have e710 := (e8.trans e9).trans e10
    refine ⟨tp, d2, T, 2 * m, hw, x, y, z, rfl, hT.ex e710, hTl, by omega, hd2, by omega, by omega, by omega, by omega, fun H11 tp2 T2 e11 n11 hT2 hT2l => ?_⟩
    exact hN _ _ ⟨_, tp2, T2, rfl, (e7.trans e710).trans e11, hT2, hT2l⟩
  · intro N hN _
    exact hN _ _ ⟨_, tp, T, rfl, e7, hT, by omega⟩
  rintro σ H8 ⟨y8, tp, T, rfl, e8, hT, hTl⟩
  have hD8 := hD.ex' e8
  walk_at "S"
  refine ⟨dp, tp, D, m, T, rfl, hD8, hv, by omega, by omega, hT, by omega, fun H9 c e9 hc => ?_⟩
  walk_at "S"
  refine iteBn (fun c1 => ?_) (fun c1 => ?_)
  · walk_at "S"
    refine ⟨dp, tp, D, m, T, rfl, hD8.ex' e9, hv, hm, hl1, hT.ex e9, by omega, fun ht => ?_, fun H' _ => k H'⟩
    rw [hc.mpr ht] at c1
    cases c1
  have ht : IsTurn D m T := hc.mp c1
  have hD9 := hD8.ex' e9
  have hT9 := hT.ex e9
  walk_at "S"
  refine lcDD hD9 (by omega) id (fun r hr p H1 hp e1 R rr => ?_) fun hd H10 e10 n10 h10 => ?_
  · walk_at "S"
    exact a_list hp fun q H2 e2 n2 h2 => rr q H2 e2 n2 h2
  rw [List.map_id] at h10
  walk_at "S"
  refine a_list (hT9.ex e10) fun htp H11 e11 n11 h11 => ?_
  walk_at "S"
  refine newL (by show 2 ≤ 1000000; decide) fun hp H12 e12 n12 h12 => ?_
  have e912 := (e10.trans e11).trans e12
  have hD12 := hD9.ex' e912
  have hT12 := hT9.ex e912
  have hd12 := h10.ex' (e11.trans e12)
  have ht12 := h11.ex e12
  walk_at "S"
  refine ⟨_, _, _, _, rfl, rfl, sq h12, atI_nat (j := 0) rfl, ?_⟩
  walk_at "S"
  refine ⟨_, _, _, _, rfl, rfl, sq h12, atI_nat (j := 1) rfl, ?_⟩
  walk_at "S"
  refine over_call hd12 hv hm hl1 ht12 (by omega) ht fun x H13 e13 hx => ?_
  walk_at "S"
  refine newL (by show 2 ≤ 1000000; decide) fun p3 H14 e14 n14 h14 => ?_
  have e1214 := e13.trans e14
  refine ⟨_, _, dp_pair (e1214 _ _ h12) (hd12.ex' e1214) (ht12.ex e1214), dp_pair h14 (hD12.ex' e1214) (hT12.ex e1214), lay_pair D T, lay_pair D T, ?_⟩
  rw [pair_eqv]
  walk_at "S"
  rw [if_neg (by decide)]
  walk_at "S"
  refine ⟨dp, tp, x, D, m, T, rfl, hD12.ex' e1214, hv, hm, hl1, hT12.ex e1214, by omega, ht, hx.paper e14, fun H15 e15 => ?_⟩
  have e1215 := e1214.trans e15
  walk_at "S"
  refine iteBn (fun c => Bool.noConfusion c) (fun _ => ?_)
  walk_at "S"
  refine iteJ (fun σ H' => σ = [some (.ref a), some (.int (ch : Int)), some (.int (sp : Int)), some (.int (la : Int)), some (.int (on : Int)), some (.int (tw : Int)), some (.ref dp), some (.ref tp), y8, some (.ref hp), some x, none, none] ∧ Ex H12 H') ?_ ?_ ?_
  · intro N hN c
    rcases hx with ⟨rfl, _⟩ | ⟨fc, F, rfl, nf, hF, _, hft, _⟩
    · rw [decide_eq_true rfl] at c
      cases c
    · have hF15 := hF.ex (e14.trans e15)
      have hfl := turn_len hv hft
      walk_at "S"
      refine ⟨tyl hF15, ?_⟩
      walk_at "S"
      refine a_app hF15 (by omega) ?_
      exact hN _ _ ⟨rfl, ex_mut e1215 nf⟩
  · intro N hN c
    exact hN _ _ ⟨rfl, e1215⟩
  rintro σ H16 ⟨rfl, e16⟩
  walk_at "S"
  refine lcDD (hD12.ex' e16) (by omega) List.reverse (fun r hr p H1 hp e1 R rr => ?_) fun vp H17 e17 n17 h17 => ?_
  · walk_at "S"
    exact a_rev hp fun q H2 e2 n2 h2 => rr q H2 e2 n2 h2
  walk_at "S"
  refine ⟨vp, D.map List.reverse, rfl, h17, by rw [List.length_map]; omega, fun r hr => ?_, fun H18 ap A e18 n18 hA hR => ?_⟩
  · obtain ⟨r0, hr0, rfl⟩ := List.mem_map.mp hr
    obtain ⟨i, hi⟩ := List.mem_iff_getElem?.mp hr0
    have := hv.rowlen hi
    rw [List.length_reverse]
    omega
  have hR2 : Rows A D := rows_trans hR (rows_rev D)
  have hvA : Valid A m := rows_valid hv hR2
  have htA : IsTurn A m T := rows_turn hv hR2 ht
  have hAl : A.length = D.length := hR2.1
  have e1218 := (e16.trans e17).trans e18
  walk_at "S"
  refine iteJ (fun σ H' => ∃ x : V, σ = [some (.ref a), some (.int (ch : Int)), some (.int (sp : Int)), some (.int (la : Int)), some (.int (on : Int)), some (.int (tw : Int)), some (.ref dp), some (.ref tp), y8, some (.ref hp), some x, some (.ref ap), none] ∧ Ex H12 H') ?_ ?_ ?_
  · intro N hN c
    walk_at "S"
    refine lcDD hA (by omega) id (fun r hr p H1 hp e1 R rr => ?_) fun bp H19 e19 n19 h19 => ?_
    · walk_at "S"
      exact a_list hp fun q H2 e2 n2 h2 => rr q H2 e2 n2 h2
    rw [List.map_id] at h19
    walk_at "S"
    refine a_list (hT12.ex (e1218.trans e19)) fun t2 H20 e20 n20 h20 => ?_
    walk_at "S"
    refine over_call (h19.ex' e20) hvA hm (by omega) h20 (by omega) htA fun x2 H21 e21 hx2 => ?_
    have e1821 := (e19.trans e20).trans e21
    walk_at "S"
    refine ⟨ap, tp, x2, A, m, T, rfl, hA.ex' e1821, hvA, hm, by omega, hT12.ex (e1218.trans e1821), by omega, htA, hx2.paper (Ex.refl _), fun H22 e22 => ?_⟩
    walk_at "S"
    refine iteBn (fun c => Bool.noConfusion c) (fun _ => ?_)
    walk_at "S"
    exact hN _ _ ⟨_, rfl, (e1218.trans e1821).trans e22⟩
  · intro N hN c
    exact hN _ _ ⟨_, rfl, e1218⟩
  rintro σ H23 ⟨x3, rfl, e23⟩
  walk_at "S"
  refine ⟨_, _, _, _, rfl, rfl, sq (e23 _ _ h12), atI_nat (j := 0) rfl, ?_⟩
  walk_at "S"
  refine ⟨_, _, _, _, rfl, rfl, sq (e23 _ _ h12), atI_nat (j := 1) rfl, ?_⟩
  walk_at "S"
  refine over_call (hd12.ex' e23) hv hm hl1 (ht12.ex e23) (by omega) ht fun x4 H24 e24 hx4 => ?_
  walk_at "S"
  refine ⟨dp, tp, x4, D, m, T, rfl, hD12.ex' (e23.trans e24), hv, hm, hl1, hT12.ex (e23.trans e24), by omega, ht, hx4.paper (Ex.refl _), fun H25 e25 => ?_⟩
  exact k H25

section
variable {P : Program} {w : World} {K : PySem.W.Frag} {mg : Str → Option Value} {base : Heap}
theorem sc_law : FnScope N_law ["_law_script"] (defScope s_law) := ⟨rfl, rfl, rfl, by decide +kernel, rfl, by decide +kernel, by decide +kernel⟩
theorem ok_law (B : Blt mg) (C_law_draws : Cal P w K mg base CX0 1 "_law_draws" ["_law_cell_here", "_law_sizes"] (sp_law_draws K)) (C_law_cell : Cal P w K mg base CX0 1 "_law_cell" ["_law_script", "_law_k"] (sp_law_cell K)) (C_law_some : Cal P w K mg base CX0 5 "_law_some" ["_law_script", "_law_choice"] (sp_law_some K)) (C_law_renamed : Cal P w K mg base CX0 2 "_law_renamed" ["_law_rows", "_law_ties", "_law_cell_here"] (sp_law_renamed K)) (C_law_crossed : Cal P w K mg base CX0 1 "_law_crossed" ["_law_one", "_law_two"] (sp_law_crossed K)) (C_law_turn : Cal P w K mg base CX0 3 "_law_turn" ["_law_drawing_here", "_law_cell_here"] (sp_law_turn K)) (C_law_spoilt : Cal P w K mg base CX0 3 "_law_spoilt" ["_law_walk", "_law_ends", "_law_draws_here"] (sp_law_spoilt K)) (C_law_is_turn : Cal P w K mg base CX0 3 "_law_is_turn" ["_law_drawing_here", "_law_ends"] (sp_law_is_turn K)) (C_law_refused : Cal P w K mg base CX0 7 "_law_refused" ["_law_drawing_here", "_law_turn_here"] (sp_law_refused K)) (C_turn_over : Cal P w K mg base CX0 6 "turn_over" ["drawing", "turn"] (sp_turn_over K)) (C_law_paper : Cal P w K mg base CX0 4 "_law_paper" ["_law_drawing_here", "_law_turn_here", "_law_found"] (sp_law_paper K)) (C_law_settled : Cal P w K mg base CX0 1 "_law_settled" ["_law_rows"] (sp_law_settled K)) {f : Addr} {fd : FuncData} (F : Fun K "law" "law" s_law f fd) : FnOk P w K mg base CX0 8 f fd ["_law_script"] (sp_law K) := by
  refine F.ok sc_law (fun vs H Q E h => len_law h) (fun cdv A outer s H vs Q E hr h => ⟨t_law K, ?_, pure_law vs H Q E h⟩)
  have hu := hu_of hr
  exact (pss_cons (ps_asg (pe_cal C_law_draws hr (by decide) (by rfl) (pa_cons (pe_cal C_law_cell hr (by decide) (by rfl) (pa_cons (pv 0) (pa_cons pe_int pa_nil))) (pa_cons (pe_lst (pa_cons pe_int (pa_cons pe_int (pa_cons pe_int (pa_cons pe_int (pa_cons pe_int pa_nil)))))) pa_nil))) (pg_unl rfl (pgs_cons (pg_name (i := 1) sc_law.nd rfl (Or.inl rfl)) (pgs_cons (pg_name (i := 2) sc_law.nd rfl (Or.inl rfl)) (pgs_cons (pg_name (i := 3) sc_law.nd rfl (Or.inl rfl)) (pgs_cons (pg_name (i := 4) sc_law.nd rfl (Or.inl rfl)) (pgs_cons (pg_name (i := 5) sc_law.nd rfl (Or.inl rfl)) pgs_nil)))))))
        (pss_cons (ps_set (i := 6) sc_law.nd rfl (Or.inl rfl) (pe_cal C_law_some hr (by decide) (by rfl) (pa_cons (pv 0) (pa_cons (pv 1) pa_nil))))
        (pss_cons (ps_if (pt_cmpR op_eq (pv 3) pe_int (nomark _)) (pss_one (ps_set (i := 6) sc_law.nd rfl (Or.inl rfl) (pe_cal C_law_renamed hr (by decide) (by rfl) (pa_cons (pe_cal C_law_crossed hr (by decide) (by rfl) (pa_cons (pe_op op_add pe_int (pv 4)) (pa_cons (pe_op op_add pe_int (pv 5)) pa_nil))) (pa_cons (pe_op op_add (pe_op op_add pe_int (pv 4)) (pv 5)) (pa_cons (pe_cal C_law_cell hr (by decide) (by rfl) (pa_cons (pv 0) (pa_cons pe_int pa_nil))) pa_nil)))))) pss_nil)
        (pss_cons (ps_set (i := 7) sc_law.nd rfl (Or.inl rfl) (pe_cal C_law_turn hr (by decide) (by rfl) (pa_cons (pv 6) (pa_cons (pe_cal C_law_cell hr (by decide) (by rfl) (pa_cons (pv 0) (pa_cons pe_int pa_nil))) pa_nil))))
        (pss_cons (ps_if (pt_cmpR op_eq (pv 2) pe_int (nomark _)) (pss_cons (ps_set (i := 8) sc_law.nd rfl (Or.inl rfl) (pe_callB (cr_sum rfl) (by rfl) B.sum_ (by decide +kernel) (pa_cons (pe_lc (own := [("_law_row", 12)]) (g := gName 12) rfl sc_law.nd (pi_list (pv 6)) (blkOk_by (own := [("_law_row", 12)]) (N := N_law) (sc := (defScope s_law)) (by decide +kernel)) (fun _ _ _ _ _ => pg_name (i := 12) sc_law.nd rfl (Or.inl rfl)) (fun _ _ _ _ _ => pts_nil) (fun _ _ _ _ _ => (pe_callB call_len_seq (by rfl) B.len_ PySem.boot_len (pa_cons (pv 12) pa_nil)))) pa_nil)))
          (pss_one (ps_set (i := 7) sc_law.nd rfl (Or.inl rfl) (pe_cal C_law_spoilt hr (by decide) (by rfl) (pa_cons (pv 7) (pa_cons (pv 8) (pa_cons (pe_cal C_law_draws hr (by decide) (by rfl) (pa_cons (pe_cal C_law_cell hr (by decide) (by rfl) (pa_cons (pv 0) (pa_cons pe_int pa_nil))) (pa_cons (pe_lst (pa_cons pe_int (pa_cons pe_int (pa_cons pe_int (pa_cons pe_int pa_nil))))) pa_nil))) pa_nil))))))) pss_nil)
        (pss_cons (ps_if (pt_not (pt_val (pe_cal C_law_is_turn hr (by decide) (by rfl) (pa_cons (pv 6) (pa_cons (pv 7) pa_nil))))) (pss_one (ps_ret (pe_cal C_law_refused hr (by decide) (by rfl) (pa_cons (pv 6) (pa_cons (pv 7) pa_nil))))) pss_nil)
        (pss_cons (ps_set (i := 9) sc_law.nd rfl (Or.inl rfl) (pe_lst (pa_cons (pe_lc (own := [("_law_row", 12)]) (g := gName 12) rfl sc_law.nd (pi_list (pv 6)) (blkOk_by (own := [("_law_row", 12)]) (N := N_law) (sc := (defScope s_law)) (by decide +kernel)) (fun _ _ _ _ _ => pg_name (i := 12) sc_law.nd rfl (Or.inl rfl)) (fun _ _ _ _ _ => pts_nil) (fun _ _ _ _ _ => (pe_callTy call_list_of (by rfl) B.list_ (by decide +kernel) (pa_cons (pv 12) pa_nil)))) (pa_cons (pe_callTy call_list_of (by rfl) B.list_ (by decide +kernel) (pa_cons (pv 7) pa_nil)) pa_nil))))
        (pss_cons (ps_set (i := 10) sc_law.nd rfl (Or.inl rfl) (pe_cal C_turn_over hr (by decide) (by rfl) (pa_cons (pe_ix ix_list (pv 9) pe_int (fun _ _ => rfl)) (pa_cons (pe_ix ix_list (pv 9) pe_int (fun _ _ => rfl)) pa_nil))))
        (pss_cons (ps_if (PW.pt (pw_or (pt_cmpR (op_neD hr.units) (pv 9) (pe_lst (pa_cons (pv 6) (pa_cons (pv 7) pa_nil))) (nomark _)) (pw_or1 (pt_not (pt_val (pe_cal C_law_paper hr (by decide) (by rfl) (pa_cons (pv 6) (pa_cons (pv 7) (pa_cons (pv 10) pa_nil))))))))) (pss_one (ps_ret pe_bl)) pss_nil)
        (pss_cons (ps_if (pt_cmpR op_notN (pv 10) pe_non (nomark _)) (pss_one (ps_expr (pe_bm PySem.F.plainAttrs_list PySem.F.slot_list_append PySem.F.type_list_append mt_append (pv 10) (pa_cons pe_int pa_nil)))) pss_nil)
        (pss_cons (ps_set (i := 11) sc_law.nd rfl (Or.inl rfl) (pe_cal C_law_settled hr (by decide) (by rfl) (pa_cons (pe_lc (own := [("_law_row", 12)]) (g := gName 12) rfl sc_law.nd (pi_list (pv 6)) (blkOk_by (own := [("_law_row", 12)]) (N := N_law) (sc := (defScope s_law)) (by decide +kernel)) (fun _ _ _ _ _ => pg_name (i := 12) sc_law.nd rfl (Or.inl rfl)) (fun _ _ _ _ _ => pts_nil) (fun _ _ _ _ _ => (pe_revL (pv 12)))) pa_nil)))
        (pss_cons (ps_if (pt_cmpR op_gt (pv 3) pe_int (nomark _)) (pss_cons (ps_set (i := 10) sc_law.nd rfl (Or.inl rfl) (pe_cal C_turn_over hr (by decide) (by rfl) (pa_cons (pe_lc (own := [("_law_row", 12)]) (g := gName 12) rfl sc_law.nd (pi_list (pv 11)) (blkOk_by (own := [("_law_row", 12)]) (N := N_law) (sc := (defScope s_law)) (by decide +kernel)) (fun _ _ _ _ _ => pg_name (i := 12) sc_law.nd rfl (Or.inl rfl)) (fun _ _ _ _ _ => pts_nil) (fun _ _ _ _ _ => (pe_callTy call_list_of (by rfl) B.list_ (by decide +kernel) (pa_cons (pv 12) pa_nil)))) (pa_cons (pe_callTy call_list_of (by rfl) B.list_ (by decide +kernel) (pa_cons (pv 7) pa_nil)) pa_nil))))
          (pss_one (ps_if (pt_not (pt_val (pe_cal C_law_paper hr (by decide) (by rfl) (pa_cons (pv 11) (pa_cons (pv 7) (pa_cons (pv 10) pa_nil)))))) (pss_one (ps_ret pe_bl)) pss_nil))) pss_nil)
        (pss_one (ps_ret (pe_cal C_law_paper hr (by decide) (by rfl) (pa_cons (pv 6) (pa_cons (pv 7) (pa_cons (pe_cal C_turn_over hr (by decide) (by rfl) (pa_cons (pe_ix ix_list (pv 9) pe_int (fun _ _ => rfl)) (pa_cons (pe_ix ix_list (pv 9) pe_int (fun _ _ => rfl)) pa_nil))) pa_nil))))))))))))))))))

end

section
variable {P : Program} {w : World} {K : PySem.W.Frag} {mg : Str → Option Value} {base : Heap} {C CF CW : Addr}
theorem all_ok (B : Blt mg) (XF : ExF K mg C CF CW) (D_mate_of : Dfn K mg "mate_of" s_mate_of ["end"]) (D_least_first : Dfn K mg "least_first" s_least_first ["row"]) (D_begun_at : Dfn K mg "begun_at" s_begun_at ["row", "end"]) (D_count_ends : Dfn K mg "count_ends" s_count_ends ["drawing"]) (D_seats_of : Dfn K mg "seats_of" s_seats_of ["drawing"]) (D_is_walk : Dfn K mg "is_walk" s_is_walk ["drawing", "ends"]) (D_is_round : Dfn K mg "is_round" s_is_round ["drawing", "ends"]) (D_ask_round : Dfn K mg "ask_round" s_ask_round ["drawing", "ends"]) (D_cut_along : Dfn K mg "cut_along" s_cut_along ["drawing", "turn"]) (D_tree_from : Dfn K mg "tree_from" s_tree_from ["drawing", "root"]) (D_way_up : Dfn K mg "way_up" s_way_up ["seats", "nearer", "place"]) (D_turned_about : Dfn K mg "turned_about" s_turned_about ["way"]) (D_old_end : Dfn K mg "old_end" s_old_end ["turn", "ties", "end"]) (D_shortest_back : Dfn K mg "shortest_back" s_shortest_back ["cut", "seats", "places", "turn"]) (D_turn_over : Dfn K mg "turn_over" s_turn_over ["drawing", "turn"]) (D_law_cell : Dfn K mg "_law_cell" s_law_cell ["_law_script", "_law_k"]) (D_law_draws : Dfn K mg "_law_draws" s_law_draws ["_law_cell_here", "_law_sizes"]) (D_law_mate : Dfn K mg "_law_mate" s_law_mate ["_law_end"]) (D_law_settled : Dfn K mg "_law_settled" s_law_settled ["_law_rows"]) (D_law_drawing : Dfn K mg "_law_drawing" s_law_drawing ["_law_script", "_law_base", "_law_most"]) (D_law_seats : Dfn K mg "_law_seats" s_law_seats ["_law_drawing_here"]) (D_law_behind : Dfn K mg "_law_behind" s_law_behind ["_law_drawing_here"]) (D_law_lands : Dfn K mg "_law_lands" s_law_lands ["_law_drawing_here"]) (D_law_tied : Dfn K mg "_law_tied" s_law_tied ["_law_rows", "_law_tie", "_law_one", "_law_two", "_law_high"]) (D_law_renamed : Dfn K mg "_law_renamed" s_law_renamed ["_law_rows", "_law_ties", "_law_cell_here"]) (D_law_grown : Dfn K mg "_law_grown" s_law_grown ["_law_script", "_law_base", "_law_holes"]) (D_law_kind : Dfn K mg "_law_kind" s_law_kind ["_law_sort", "_law_rows", "_law_columns", "_law_shift"]) (D_law_numbers : Dfn K mg "_law_numbers" s_law_numbers ["_law_cell_here", "_law_most"]) (D_law_crossed : Dfn K mg "_law_crossed" s_law_crossed ["_law_one", "_law_two"]) (D_law_some : Dfn K mg "_law_some" s_law_some ["_law_script", "_law_choice"]) (D_law_core : Dfn K mg "_law_core" s_law_core ["_law_drawing_here"]) (D_law_turn : Dfn K mg "_law_turn" s_law_turn ["_law_drawing_here", "_law_cell_here"]) (D_law_about : Dfn K mg "_law_about" s_law_about ["_law_walk"]) (D_law_spoilt : Dfn K mg "_law_spoilt" s_law_spoilt ["_law_walk", "_law_ends", "_law_draws_here"]) (D_law_is_walk : Dfn K mg "_law_is_walk" s_law_is_walk ["_law_drawing_here", "_law_ends"]) (D_law_is_turn : Dfn K mg "_law_is_turn" s_law_is_turn ["_law_drawing_here", "_law_ends"]) (D_law_lefts : Dfn K mg "_law_lefts" s_law_lefts ["_law_drawing_here", "_law_walk"]) (D_law_crossing : Dfn K mg "_law_crossing" s_law_crossing ["_law_drawing_here", "_law_walk", "_law_other"]) (D_law_wholes : Dfn K mg "_law_wholes" s_law_wholes ["_law_found"]) (D_law_parted : Dfn K mg "_law_parted" s_law_parted ["_law_drawing_here", "_law_turn_here"]) (D_law_paper : Dfn K mg "_law_paper" s_law_paper ["_law_drawing_here", "_law_turn_here", "_law_found"]) (D_law_refused : Dfn K mg "_law_refused" s_law_refused ["_law_drawing_here", "_law_turn_here"]) {f : Addr} {fd : FuncData} (F : Fun K "law" "law" s_law f fd) : FnOk P w K mg base CX0 8 f fd ["_law_script"] (sp_law K) := by
  have C_mate_of := cal_mate_of (P := P) (w := w) (base := base) B D_mate_of 
  have C_least_first := cal_least_first (P := P) (w := w) (base := base) B D_least_first 
  have C_begun_at := cal_begun_at (P := P) (w := w) (base := base) B D_begun_at 
  have C_count_ends := cal_count_ends (P := P) (w := w) (base := base) B D_count_ends 
  have C_seats_of := cal_seats_of (P := P) (w := w) (base := base) B D_seats_of C_count_ends
  have C_is_walk := cal_is_walk (P := P) (w := w) (base := base) B D_is_walk C_seats_of C_mate_of
  have C_is_round := cal_is_round (P := P) (w := w) (base := base) B D_is_round C_is_walk C_seats_of
  have C_ask_round := cal_ask_round (P := P) (w := w) (base := base) B D_ask_round C_is_round
  have C_cut_along := cal_cut_along (P := P) (w := w) (base := base) B D_cut_along C_is_round C_count_ends C_seats_of C_begun_at C_mate_of C_least_first
  have C_tree_from := cal_tree_from (P := P) (w := w) (base := base) B D_tree_from C_seats_of C_mate_of
  have C_way_up := cal_way_up (P := P) (w := w) (base := base) B D_way_up C_mate_of
  have C_turned_about := cal_turned_about (P := P) (w := w) (base := base) B D_turned_about C_mate_of
  have C_old_end := cal_old_end (P := P) (w := w) (base := base) B D_old_end C_mate_of
  have C_shortest_back := cal_shortest_back (P := P) (w := w) (base := base) B D_shortest_back C_tree_from C_way_up
  have C_turn_over := cal_turn_over (P := P) (w := w) (base := base) B D_turn_over C_ask_round C_cut_along C_seats_of C_shortest_back C_turned_about C_old_end
  have C_law_cell := cal_law_cell (P := P) (w := w) (base := base) B D_law_cell 
  have C_law_draws := cal_law_draws (P := P) (w := w) (base := base) B D_law_draws 
  have C_law_mate := cal_law_mate (P := P) (w := w) (base := base) B D_law_mate 
  have C_law_settled := cal_law_settled (P := P) (w := w) (base := base) B D_law_settled 
  have C_law_drawing := cal_law_drawing (P := P) (w := w) (base := base) B D_law_drawing C_law_draws C_law_cell C_law_settled
  have C_law_seats := cal_law_seats (P := P) (w := w) (base := base) B D_law_seats 
  have C_law_behind := cal_law_behind (P := P) (w := w) (base := base) B D_law_behind 
  have C_law_lands := cal_law_lands (P := P) (w := w) (base := base) B D_law_lands C_law_behind C_law_mate
  have C_law_tied := cal_law_tied (P := P) (w := w) (base := base) B D_law_tied C_law_lands
  have C_law_renamed := cal_law_renamed (P := P) (w := w) (base := base) B D_law_renamed C_law_draws C_law_settled
  have C_law_grown := cal_law_grown (P := P) (w := w) (base := base) B D_law_grown C_law_draws C_law_cell C_law_tied C_law_renamed
  have C_law_kind := cal_law_kind (P := P) (w := w) (base := base) B D_law_kind C_law_settled
  have C_law_numbers := cal_law_numbers (P := P) (w := w) (base := base) B D_law_numbers C_law_draws
  have C_law_crossed := cal_law_crossed (P := P) (w := w) (base := base) B D_law_crossed 
  have C_law_some := cal_law_some (P := P) (w := w) (base := base) B D_law_some C_law_drawing C_law_grown C_law_numbers C_law_cell C_law_kind C_law_renamed
  have C_law_core := cal_law_core (P := P) (w := w) (base := base) B D_law_core C_law_mate
  have C_law_turn := cal_law_turn (P := P) (w := w) (base := base) B D_law_turn C_law_core C_law_seats C_law_draws C_law_mate
  have C_law_about := cal_law_about (P := P) (w := w) (base := base) B D_law_about C_law_mate
  have C_law_spoilt := cal_law_spoilt (P := P) (w := w) (base := base) B D_law_spoilt C_law_about
  have C_law_is_walk := cal_law_is_walk (P := P) (w := w) (base := base) B D_law_is_walk C_law_seats C_law_mate
  have C_law_is_turn := cal_law_is_turn (P := P) (w := w) (base := base) B D_law_is_turn C_law_is_walk C_law_seats
  have C_law_lefts := cal_law_lefts (P := P) (w := w) (base := base) B D_law_lefts C_law_behind C_law_mate
  have C_law_crossing := cal_law_crossing (P := P) (w := w) (base := base) B D_law_crossing C_law_lefts C_law_mate
  have C_law_wholes := cal_law_wholes (P := P) (w := w) (base := base) B D_law_wholes 
  have C_law_parted := cal_law_parted (P := P) (w := w) (base := base) B D_law_parted C_law_lands C_law_mate
  have C_law_paper := cal_law_paper (P := P) (w := w) (base := base) B D_law_paper C_law_parted C_law_is_turn C_law_wholes C_law_crossing
  have CX_ask_round := cal_ask_roundX (P := P) (w := w) (base := base) XF.nr D_ask_round C_is_round
  have CX_turn_over := cal_turn_overX D_turn_over CX_ask_round
  have C_law_refused := cal_law_refused XF B D_law_refused CX_turn_over
  exact ok_law B C_law_draws C_law_cell C_law_some C_law_renamed C_law_crossed C_law_turn C_law_spoilt C_law_is_turn C_law_refused C_turn_over C_law_paper C_law_settled F
end

/-! ### the end: what the written part says -/
theorem dfn_mk {K : PySem.W.Frag} {h : Heap} {mg : Str → Option Value} {x : Str} {st : Stmt} {ps : List Str} {f : Addr} (X : K.In h) (G : h.Ns mainGlobals mg) {od an : Option Addr} {sl : Array (Option Value)} {oc kV dc pm cd ct : Value}
    (a : PySem.W.nsIn K mainGlobals x = some (some (.ref f))) (l : K.lookup f = some ⟨oc, od, .func (PySem.W.fnOf x x (defArgs st) (defBody st) (defScope st) .none kV dc pm an cd ct), sl⟩) (c : PySem.W.codeIn K cd x = true) (k : PySem.W.keepIn K (.ref f) = true)
    (b : ∀ (kV doc pm : Value) (an : Option Addr) (cdv ct : Value) (us : List Value), us.length = ps.length → bindArgs (PySem.W.fnOf x x (defArgs st) (defBody st) (defScope st) .none kV doc pm an cdv ct) ⟨us, []⟩ = pure (ps.zip us)) : Dfn K mg x st ps :=
  ⟨f, _, fun_mk l c k, PySem.W.mg_of X G a, (fun_mk (st := st) l c k).binds b⟩
theorem blt_mk {K : PySem.W.Frag} {h : Heap} {mg : Str → Option Value} (X : K.In h) (G : h.Ns mainGlobals mg)
    (z1 : PySem.W.nsIn K mainGlobals "len" = some none) (z2 : PySem.W.nsIn K mainGlobals "sum" = some none) (z3 : PySem.W.nsIn K mainGlobals "range" = some none) (z4 : PySem.W.nsIn K mainGlobals "enumerate" = some none) (z5 : PySem.W.nsIn K mainGlobals "list" = some none)
    (z6 : PySem.W.nsIn K mainGlobals "min" = some none) (z7 : PySem.W.nsIn K mainGlobals "max" = some none) (z8 : PySem.W.nsIn K mainGlobals "reversed" = some none) (z9 : PySem.W.nsIn K mainGlobals "set" = some none) (z10 : PySem.W.nsIn K mainGlobals "sorted" = some none)
    (z11 : PySem.W.nsIn K mainGlobals "isinstance" = some none) (z12 : PySem.W.nsIn K mainGlobals "int" = some none) (z13 : PySem.W.nsIn K mainGlobals "bool" = some none) (z14 : PySem.W.nsIn K mainGlobals "ValueError" = some none) : Blt mg :=
  ⟨PySem.W.mg_none_of X G z1, PySem.W.mg_none_of X G z2, PySem.W.mg_none_of X G z3, PySem.W.mg_none_of X G z4, PySem.W.mg_none_of X G z5, PySem.W.mg_none_of X G z6, PySem.W.mg_none_of X G z7, PySem.W.mg_none_of X G z8, PySem.W.mg_none_of X G z9, PySem.W.mg_none_of X G z10,
    PySem.W.mg_none_of X G z11, PySem.W.mg_none_of X G z12, PySem.W.mg_none_of X G z13, PySem.W.mg_none_of X G z14⟩
theorem kit_own {K : PySem.W.Frag} {t : Value} {F : Addr} {b : Bool} (h2 : PySem.W.isClsIn K F = true) (h3 : PySem.W.typeIn K (.ref F) = some (.type "type")) (h4 : PySem.W.subIn K t (.ref F) = some b) : PySem.W.kitCls K t (.ref F) = some b := by
  have e2 : ((PySem.W.clsIn K F).isSome && PySem.W.typeIn K (.ref F) == some (.type "type")) = true := by
    have h2' : (PySem.W.clsIn K F).isSome = true := h2
    rw [h2', h3] <;> rfl
  show (if ((PySem.W.clsIn K F).isSome && PySem.W.typeIn K (.ref F) == some (.type "type")) = true then PySem.W.subIn K t (.ref F) else none) = some b
  rw [if_pos e2]
  exact h4
theorem exm_own {K : PySem.W.Frag} {t : Value} {F : Addr} {b : Bool} (h1 : PySem.W.subIn K (.ref F) (.type "BaseException") = some true) (h2 : PySem.W.isClsIn K F = true) (h3 : PySem.W.typeIn K (.ref F) = some (.type "type")) (h4 : PySem.W.subIn K t (.ref F) = some b) : PySem.W.exmOne K t (.ref F) = some b := by
  have e1 : (PySem.W.subIn K (.ref F) (.type "BaseException") == some true) = true := by rw [h1] <;> rfl
  show (if (PySem.W.subIn K (.ref F) (.type "BaseException") == some true) = true then PySem.W.kitCls K t (.ref F) else none) = some b
  rw [if_pos e1]
  exact kit_own h2 h3 h4
theorem kit_same {K : PySem.W.Frag} {t : Value} : PySem.W.kitOne K t t = some true := if_pos (beq_self_eq_true _)
theorem kit_else {K : PySem.W.Frag} {t c : Value} {b : Bool} (hne : (t == c) = false) (h : PySem.W.kitCls K t c = some b) : PySem.W.kitOne K t c = some b := by
  show (if (t == c) = true then some true else PySem.W.kitCls K t c) = some b
  rw [if_neg (by rw [hne]; decide)]
  exact h
theorem kit_value {K : PySem.W.Frag} {C : Addr} (h : PySem.W.subIn K (.ref C) (.type "ValueError") = some true) : PySem.W.kitOne K (.ref C) (.type "ValueError") = some true := by
  refine kit_else rfl ?_
  show (if PySem.W.kitMeta "ValueError" = true then PySem.W.subIn K (.ref C) (.type "ValueError") else none) = some true
  rw [if_pos (by decide +kernel)]
  exact h
theorem exf_mk {K : PySem.W.Frag} {h : Heap} {mg : Str → Option Value} {C CF CW : Addr} (X : K.In h) (G : h.Ns mainGlobals mg)
    (aC : PySem.W.nsIn K mainGlobals "NoRound" = some (some (.ref C))) (aF : PySem.W.nsIn K mainGlobals "FloorError" = some (some (.ref CF))) (aW : PySem.W.nsIn K mainGlobals "NoWalk" = some (some (.ref CW)))
    (q : PySem.W.excIn K C [.type "ValueError", .type "Exception", .type "BaseException", .type "object"] "ValueError.__new__" = true) (kp : PySem.W.keepIn K (.ref C) = true) (b : PySem.W.subIn K (.ref C) (.type "BaseException") = some true) (t : PySem.W.typeIn K (.ref C) = some (.type "type"))
    (bF : PySem.W.subIn K (.ref CF) (.type "BaseException") = some true) (iF : PySem.W.isClsIn K CF = true) (tF : PySem.W.typeIn K (.ref CF) = some (.type "type")) (sF : PySem.W.subIn K (.ref C) (.ref CF) = some true)
    (iW : PySem.W.isClsIn K CW = true) (tW : PySem.W.typeIn K (.ref CW) = some (.type "type")) (sW : PySem.W.subIn K (.ref C) (.ref CW) = some false) (nW : (Value.ref C == Value.ref CW) = false) (sV : PySem.W.subIn K (.ref C) (.type "ValueError") = some true)
    (ga : PySem.W.findIn K (.ref C) "__getattribute__" = some (some (.builtin "BaseException.__getattribute__"))) (gg : PySem.W.findIn K (.ref C) "__getattr__" = some none) (hd : PySem.W.hasDictIn K C = true) (fc : PySem.W.findIn K (.ref C) "__class__" = some (some (.builtin "object.__class__")))
    (sg : PySem.W.specialIn K (.builtin "object.__class__") "__get__" = some (some (.builtin "getset_descriptor.__get__"))) (tk : PySem.W.takesIn K (.builtin "object.__class__") = some true) (mo : PySem.W.mroIn K C (.type "object") = some true) : ExF K mg C CF CW :=
  ⟨⟨PySem.W.mg_of X G aC, q, kp, b, t⟩, PySem.W.mg_of X G aF, PySem.W.mg_of X G aW, ⟨ga, gg, b, hd, fc, sg, tk, mo⟩, exm_own bF iF tF sF, kit_same, kit_value sV, kit_else nW (kit_own iW tW sW)⟩

theorem fin_mk {l : PySem.W.OpenLaw} {w : World} {K : PySem.W.Frag} {h : Heap} {mg : Str → Option Value} {fa fl C CF CW : Addr} (X : K.In h) (G : h.Ns mainGlobals mg) (hfa : mg "law" = some (.ref fa)) {od an : Option Addr} {sl : Array (Option Value)} {oc kV dc pm cd ct : Value}
    (a : PySem.W.nsIn K mainGlobals "law" = some (some (.ref fl))) (lk : K.lookup fl = some ⟨oc, od, .func (PySem.W.fnOf "law" "law" (defArgs s_law) (defBody s_law) (defScope s_law) .none kV dc pm an cd ct), sl⟩) (c : PySem.W.codeIn K cd "law" = true) (k : PySem.W.keepIn K (.ref fl) = true)
    (B : Blt mg) (XF : ExF K mg C CF CW) (D_mate_of : Dfn K mg "mate_of" s_mate_of ["end"]) (D_least_first : Dfn K mg "least_first" s_least_first ["row"]) (D_begun_at : Dfn K mg "begun_at" s_begun_at ["row", "end"]) (D_count_ends : Dfn K mg "count_ends" s_count_ends ["drawing"]) (D_seats_of : Dfn K mg "seats_of" s_seats_of ["drawing"]) (D_is_walk : Dfn K mg "is_walk" s_is_walk ["drawing", "ends"]) (D_is_round : Dfn K mg "is_round" s_is_round ["drawing", "ends"]) (D_ask_round : Dfn K mg "ask_round" s_ask_round ["drawing", "ends"]) (D_cut_along : Dfn K mg "cut_along" s_cut_along ["drawing", "turn"]) (D_tree_from : Dfn K mg "tree_from" s_tree_from ["drawing", "root"]) (D_way_up : Dfn K mg "way_up" s_way_up ["seats", "nearer", "place"]) (D_turned_about : Dfn K mg "turned_about" s_turned_about ["way"]) (D_old_end : Dfn K mg "old_end" s_old_end ["turn", "ties", "end"]) (D_shortest_back : Dfn K mg "shortest_back" s_shortest_back ["cut", "seats", "places", "turn"]) (D_turn_over : Dfn K mg "turn_over" s_turn_over ["drawing", "turn"]) (D_law_cell : Dfn K mg "_law_cell" s_law_cell ["_law_script", "_law_k"]) (D_law_draws : Dfn K mg "_law_draws" s_law_draws ["_law_cell_here", "_law_sizes"]) (D_law_mate : Dfn K mg "_law_mate" s_law_mate ["_law_end"]) (D_law_settled : Dfn K mg "_law_settled" s_law_settled ["_law_rows"]) (D_law_drawing : Dfn K mg "_law_drawing" s_law_drawing ["_law_script", "_law_base", "_law_most"]) (D_law_seats : Dfn K mg "_law_seats" s_law_seats ["_law_drawing_here"]) (D_law_behind : Dfn K mg "_law_behind" s_law_behind ["_law_drawing_here"]) (D_law_lands : Dfn K mg "_law_lands" s_law_lands ["_law_drawing_here"]) (D_law_tied : Dfn K mg "_law_tied" s_law_tied ["_law_rows", "_law_tie", "_law_one", "_law_two", "_law_high"]) (D_law_renamed : Dfn K mg "_law_renamed" s_law_renamed ["_law_rows", "_law_ties", "_law_cell_here"]) (D_law_grown : Dfn K mg "_law_grown" s_law_grown ["_law_script", "_law_base", "_law_holes"]) (D_law_kind : Dfn K mg "_law_kind" s_law_kind ["_law_sort", "_law_rows", "_law_columns", "_law_shift"]) (D_law_numbers : Dfn K mg "_law_numbers" s_law_numbers ["_law_cell_here", "_law_most"]) (D_law_crossed : Dfn K mg "_law_crossed" s_law_crossed ["_law_one", "_law_two"]) (D_law_some : Dfn K mg "_law_some" s_law_some ["_law_script", "_law_choice"]) (D_law_core : Dfn K mg "_law_core" s_law_core ["_law_drawing_here"]) (D_law_turn : Dfn K mg "_law_turn" s_law_turn ["_law_drawing_here", "_law_cell_here"]) (D_law_about : Dfn K mg "_law_about" s_law_about ["_law_walk"]) (D_law_spoilt : Dfn K mg "_law_spoilt" s_law_spoilt ["_law_walk", "_law_ends", "_law_draws_here"]) (D_law_is_walk : Dfn K mg "_law_is_walk" s_law_is_walk ["_law_drawing_here", "_law_ends"]) (D_law_is_turn : Dfn K mg "_law_is_turn" s_law_is_turn ["_law_drawing_here", "_law_ends"]) (D_law_lefts : Dfn K mg "_law_lefts" s_law_lefts ["_law_drawing_here", "_law_walk"]) (D_law_crossing : Dfn K mg "_law_crossing" s_law_crossing ["_law_drawing_here", "_law_walk", "_law_other"]) (D_law_wholes : Dfn K mg "_law_wholes" s_law_wholes ["_law_found"]) (D_law_parted : Dfn K mg "_law_parted" s_law_parted ["_law_drawing_here", "_law_turn_here"]) (D_law_paper : Dfn K mg "_law_paper" s_law_paper ["_law_drawing_here", "_law_turn_here", "_law_found"]) (D_law_refused : Dfn K mg "_law_refused" s_law_refused ["_law_drawing_here", "_law_turn_here"]) :
    ∃ fd : FuncData, (∀ (s : Shared) (v : Value), BindsTo s fd ⟨[v], []⟩ [("_law_script", v)]) ∧ ∀ base : Heap, K.In base → base.Ns mainGlobals mg → FnOk l.prog w K mg base CX0 8 fa fd ["_law_script"] (sp_law K) := by
  have e := hfa.symm.trans (PySem.W.mg_of X G a)
  cases e
  have F := fun_mk (st := s_law) lk c k
  exact ⟨_, fun s v => .of_eq rfl, fun base _ _ => all_ok B XF D_mate_of D_least_first D_begun_at D_count_ends D_seats_of D_is_walk D_is_round D_ask_round D_cut_along D_tree_from D_way_up D_turned_about D_old_end D_shortest_back D_turn_over D_law_cell D_law_draws D_law_mate D_law_settled D_law_drawing D_law_seats D_law_behind D_law_lands D_law_tied D_law_renamed D_law_grown D_law_kind D_law_numbers D_law_crossed D_law_some D_law_core D_law_turn D_law_about D_law_spoilt D_law_is_walk D_law_is_turn D_law_lefts D_law_crossing D_law_wholes D_law_parted D_law_paper D_law_refused F⟩

end RF
open PySem PySem.W PyProof.Rows
set_option maxHeartbeats 0 in
theorem PySem.Challenge.cw_ringfloor_k56_whole_turn_over_holds : PySem.Challenge.rw_ringfloor_k56_whole_turn_over.Holds := by
  w_on; o_law; k_head; (case hw => w_witness2)
  k_fill
  refine L2.walk_of (l := PySem.Challenge.rw_ringfloor_k56_whole_turn_over) (n := 63) (k := 8) (x := "_law_script") (CX := fun _ => L2.CX0) (sp := fun w => RF.sp_law _) rfl (by decide) rfl ⟨rfl, by decide, by decide⟩ (fun w h Y => PySem.W.kIn_of Y) ?F (fun _ _ a ns hl _ hS => ⟨a, ns, rfl, hS, hl, fun _ => rfl⟩) (fun _ _ _ _ _ h => h)
  case F =>
    intro w mg fa h KX G hmg
    refine' RF.fin_mk KX G hmg ?al ?ll ?cl ?kl ?B ?XF ?D_mate_of ?D_least_first ?D_begun_at ?D_count_ends ?D_seats_of ?D_is_walk ?D_is_round ?D_ask_round ?D_cut_along ?D_tree_from ?D_way_up ?D_turned_about ?D_old_end ?D_shortest_back ?D_turn_over ?D_law_cell ?D_law_draws ?D_law_mate ?D_law_settled ?D_law_drawing ?D_law_seats ?D_law_behind ?D_law_lands ?D_law_tied ?D_law_renamed ?D_law_grown ?D_law_kind ?D_law_numbers ?D_law_crossed ?D_law_some ?D_law_core ?D_law_turn ?D_law_about ?D_law_spoilt ?D_law_is_walk ?D_law_is_turn ?D_law_lefts ?D_law_crossing ?D_law_wholes ?D_law_parted ?D_law_paper ?D_law_refused
    (case al => k_is); (case ll => k_is); (case cl => k_is); (case kl => k_is)
    (case B =>
      refine' RF.blt_mk KX G ?z1 ?z2 ?z3 ?z4 ?z5 ?z6 ?z7 ?z8 ?z9 ?z10 ?z11 ?z12 ?z13 ?z14
      (case z1 => k_is); (case z2 => k_is); (case z3 => k_is); (case z4 => k_is); (case z5 => k_is); (case z6 => k_is); (case z7 => k_is); (case z8 => k_is); (case z9 => k_is); (case z10 => k_is); (case z11 => k_is); (case z12 => k_is); (case z13 => k_is); (case z14 => k_is))
    (case XF =>
      refine' RF.exf_mk KX G ?zzaC ?zzaF ?zzaW ?zzq ?zzkp ?zzb ?zzt ?zzbF ?zziF ?zztF ?zzsF ?zziW ?zztW ?zzsW ?zznW ?zzsV ?zzga ?zzgg ?zzhd ?zzfc ?zzsg ?zztk ?zzmo
      (case zzaC => k_is); (case zzaF => k_is); (case zzaW => k_is); (case zzq => k_exc); (case zzkp => k_is); (case zzb => k_is); (case zzt => k_is); (case zzbF => k_is); (case zziF => k_is); (case zztF => k_is); (case zzsF => k_is); (case zziW => k_is); (case zztW => k_is); (case zzsW => k_is)
      (case zznW => first | rfl | decide); (case zzsV => k_is); (case zzga => k_is); (case zzgg => k_is); (case zzhd => k_is); (case zzfc => k_is); (case zzsg => k_is); (case zztk => k_is); (case zzmo => k_is))
    (case D_mate_of =>
      refine' RF.dfn_mk (x := "mate_of") (st := RF.s_mate_of) (ps := ["end"]) KX G ?zza ?zzl ?zzc ?zzk (fun _ _ _ _ _ _ us hl => match us, hl with | [_], _ => rfl)
      (case zza => k_is); (case zzl => k_is); (case zzc => k_is); (case zzk => k_is))
    (case D_least_first =>
      refine' RF.dfn_mk (x := "least_first") (st := RF.s_least_first) (ps := ["row"]) KX G ?zza ?zzl ?zzc ?zzk (fun _ _ _ _ _ _ us hl => match us, hl with | [_], _ => rfl)
      (case zza => k_is); (case zzl => k_is); (case zzc => k_is); (case zzk => k_is))
    (case D_begun_at =>
      refine' RF.dfn_mk (x := "begun_at") (st := RF.s_begun_at) (ps := ["row", "end"]) KX G ?zza ?zzl ?zzc ?zzk (fun _ _ _ _ _ _ us hl => match us, hl with | [_, _], _ => rfl)
      (case zza => k_is); (case zzl => k_is); (case zzc => k_is); (case zzk => k_is))
    (case D_count_ends =>
      refine' RF.dfn_mk (x := "count_ends") (st := RF.s_count_ends) (ps := ["drawing"]) KX G ?zza ?zzl ?zzc ?zzk (fun _ _ _ _ _ _ us hl => match us, hl with | [_], _ => rfl)
      (case zza => k_is); (case zzl => k_is); (case zzc => k_is); (case zzk => k_is))
    (case D_seats_of =>
      refine' RF.dfn_mk (x := "seats_of") (st := RF.s_seats_of) (ps := ["drawing"]) KX G ?zza ?zzl ?zzc ?zzk (fun _ _ _ _ _ _ us hl => match us, hl with | [_], _ => rfl)
      (case zza => k_is); (case zzl => k_is); (case zzc => k_is); (case zzk => k_is))
    (case D_is_walk =>
      refine' RF.dfn_mk (x := "is_walk") (st := RF.s_is_walk) (ps := ["drawing", "ends"]) KX G ?zza ?zzl ?zzc ?zzk (fun _ _ _ _ _ _ us hl => match us, hl with | [_, _], _ => rfl)
      (case zza => k_is); (case zzl => k_is); (case zzc => k_is); (case zzk => k_is))
    (case D_is_round =>
      refine' RF.dfn_mk (x := "is_round") (st := RF.s_is_round) (ps := ["drawing", "ends"]) KX G ?zza ?zzl ?zzc ?zzk (fun _ _ _ _ _ _ us hl => match us, hl with | [_, _], _ => rfl)
      (case zza => k_is); (case zzl => k_is); (case zzc => k_is); (case zzk => k_is))
    (case D_ask_round =>
      refine' RF.dfn_mk (x := "ask_round") (st := RF.s_ask_round) (ps := ["drawing", "ends"]) KX G ?zza ?zzl ?zzc ?zzk (fun _ _ _ _ _ _ us hl => match us, hl with | [_, _], _ => rfl)
      (case zza => k_is); (case zzl => k_is); (case zzc => k_is); (case zzk => k_is))
    (case D_cut_along =>
      refine' RF.dfn_mk (x := "cut_along") (st := RF.s_cut_along) (ps := ["drawing", "turn"]) KX G ?zza ?zzl ?zzc ?zzk (fun _ _ _ _ _ _ us hl => match us, hl with | [_, _], _ => rfl)
      (case zza => k_is); (case zzl => k_is); (case zzc => k_is); (case zzk => k_is))
    (case D_tree_from =>
      refine' RF.dfn_mk (x := "tree_from") (st := RF.s_tree_from) (ps := ["drawing", "root"]) KX G ?zza ?zzl ?zzc ?zzk (fun _ _ _ _ _ _ us hl => match us, hl with | [_, _], _ => rfl)
      (case zza => k_is); (case zzl => k_is); (case zzc => k_is); (case zzk => k_is))
    (case D_way_up =>
      refine' RF.dfn_mk (x := "way_up") (st := RF.s_way_up) (ps := ["seats", "nearer", "place"]) KX G ?zza ?zzl ?zzc ?zzk (fun _ _ _ _ _ _ us hl => match us, hl with | [_, _, _], _ => rfl)
      (case zza => k_is); (case zzl => k_is); (case zzc => k_is); (case zzk => k_is))
    (case D_turned_about =>
      refine' RF.dfn_mk (x := "turned_about") (st := RF.s_turned_about) (ps := ["way"]) KX G ?zza ?zzl ?zzc ?zzk (fun _ _ _ _ _ _ us hl => match us, hl with | [_], _ => rfl)
      (case zza => k_is); (case zzl => k_is); (case zzc => k_is); (case zzk => k_is))
    (case D_old_end =>
      refine' RF.dfn_mk (x := "old_end") (st := RF.s_old_end) (ps := ["turn", "ties", "end"]) KX G ?zza ?zzl ?zzc ?zzk (fun _ _ _ _ _ _ us hl => match us, hl with | [_, _, _], _ => rfl)
      (case zza => k_is); (case zzl => k_is); (case zzc => k_is); (case zzk => k_is))
    (case D_shortest_back =>
      refine' RF.dfn_mk (x := "shortest_back") (st := RF.s_shortest_back) (ps := ["cut", "seats", "places", "turn"]) KX G ?zza ?zzl ?zzc ?zzk (fun _ _ _ _ _ _ us hl => match us, hl with | [_, _, _, _], _ => rfl)
      (case zza => k_is); (case zzl => k_is); (case zzc => k_is); (case zzk => k_is))
    (case D_turn_over =>
      refine' RF.dfn_mk (x := "turn_over") (st := RF.s_turn_over) (ps := ["drawing", "turn"]) KX G ?zza ?zzl ?zzc ?zzk (fun _ _ _ _ _ _ us hl => match us, hl with | [_, _], _ => rfl)
      (case zza => k_is); (case zzl => k_is); (case zzc => k_is); (case zzk => k_is))
    (case D_law_cell =>
      refine' RF.dfn_mk (x := "_law_cell") (st := RF.s_law_cell) (ps := ["_law_script", "_law_k"]) KX G ?zza ?zzl ?zzc ?zzk (fun _ _ _ _ _ _ us hl => match us, hl with | [_, _], _ => rfl)
      (case zza => k_is); (case zzl => k_is); (case zzc => k_is); (case zzk => k_is))
    (case D_law_draws =>
      refine' RF.dfn_mk (x := "_law_draws") (st := RF.s_law_draws) (ps := ["_law_cell_here", "_law_sizes"]) KX G ?zza ?zzl ?zzc ?zzk (fun _ _ _ _ _ _ us hl => match us, hl with | [_, _], _ => rfl)
      (case zza => k_is); (case zzl => k_is); (case zzc => k_is); (case zzk => k_is))
    (case D_law_mate =>
      refine' RF.dfn_mk (x := "_law_mate") (st := RF.s_law_mate) (ps := ["_law_end"]) KX G ?zza ?zzl ?zzc ?zzk (fun _ _ _ _ _ _ us hl => match us, hl with | [_], _ => rfl)
      (case zza => k_is); (case zzl => k_is); (case zzc => k_is); (case zzk => k_is))
    (case D_law_settled =>
      refine' RF.dfn_mk (x := "_law_settled") (st := RF.s_law_settled) (ps := ["_law_rows"]) KX G ?zza ?zzl ?zzc ?zzk (fun _ _ _ _ _ _ us hl => match us, hl with | [_], _ => rfl)
      (case zza => k_is); (case zzl => k_is); (case zzc => k_is); (case zzk => k_is))
    (case D_law_drawing =>
      refine' RF.dfn_mk (x := "_law_drawing") (st := RF.s_law_drawing) (ps := ["_law_script", "_law_base", "_law_most"]) KX G ?zza ?zzl ?zzc ?zzk (fun _ _ _ _ _ _ us hl => match us, hl with | [_, _, _], _ => rfl)
      (case zza => k_is); (case zzl => k_is); (case zzc => k_is); (case zzk => k_is))
    (case D_law_seats =>
      refine' RF.dfn_mk (x := "_law_seats") (st := RF.s_law_seats) (ps := ["_law_drawing_here"]) KX G ?zza ?zzl ?zzc ?zzk (fun _ _ _ _ _ _ us hl => match us, hl with | [_], _ => rfl)
      (case zza => k_is); (case zzl => k_is); (case zzc => k_is); (case zzk => k_is))
    (case D_law_behind =>
      refine' RF.dfn_mk (x := "_law_behind") (st := RF.s_law_behind) (ps := ["_law_drawing_here"]) KX G ?zza ?zzl ?zzc ?zzk (fun _ _ _ _ _ _ us hl => match us, hl with | [_], _ => rfl)
      (case zza => k_is); (case zzl => k_is); (case zzc => k_is); (case zzk => k_is))
    (case D_law_lands =>
      refine' RF.dfn_mk (x := "_law_lands") (st := RF.s_law_lands) (ps := ["_law_drawing_here"]) KX G ?zza ?zzl ?zzc ?zzk (fun _ _ _ _ _ _ us hl => match us, hl with | [_], _ => rfl)
      (case zza => k_is); (case zzl => k_is); (case zzc => k_is); (case zzk => k_is))
    (case D_law_tied =>
      refine' RF.dfn_mk (x := "_law_tied") (st := RF.s_law_tied) (ps := ["_law_rows", "_law_tie", "_law_one", "_law_two", "_law_high"]) KX G ?zza ?zzl ?zzc ?zzk (fun _ _ _ _ _ _ us hl => match us, hl with | [_, _, _, _, _], _ => rfl)
      (case zza => k_is); (case zzl => k_is); (case zzc => k_is); (case zzk => k_is))
    (case D_law_renamed =>
      refine' RF.dfn_mk (x := "_law_renamed") (st := RF.s_law_renamed) (ps := ["_law_rows", "_law_ties", "_law_cell_here"]) KX G ?zza ?zzl ?zzc ?zzk (fun _ _ _ _ _ _ us hl => match us, hl with | [_, _, _], _ => rfl)
      (case zza => k_is); (case zzl => k_is); (case zzc => k_is); (case zzk => k_is))
    (case D_law_grown =>
      refine' RF.dfn_mk (x := "_law_grown") (st := RF.s_law_grown) (ps := ["_law_script", "_law_base", "_law_holes"]) KX G ?zza ?zzl ?zzc ?zzk (fun _ _ _ _ _ _ us hl => match us, hl with | [_, _, _], _ => rfl)
      (case zza => k_is); (case zzl => k_is); (case zzc => k_is); (case zzk => k_is))
    (case D_law_kind =>
      refine' RF.dfn_mk (x := "_law_kind") (st := RF.s_law_kind) (ps := ["_law_sort", "_law_rows", "_law_columns", "_law_shift"]) KX G ?zza ?zzl ?zzc ?zzk (fun _ _ _ _ _ _ us hl => match us, hl with | [_, _, _, _], _ => rfl)
      (case zza => k_is); (case zzl => k_is); (case zzc => k_is); (case zzk => k_is))
    (case D_law_numbers =>
      refine' RF.dfn_mk (x := "_law_numbers") (st := RF.s_law_numbers) (ps := ["_law_cell_here", "_law_most"]) KX G ?zza ?zzl ?zzc ?zzk (fun _ _ _ _ _ _ us hl => match us, hl with | [_, _], _ => rfl)
      (case zza => k_is); (case zzl => k_is); (case zzc => k_is); (case zzk => k_is))
    (case D_law_crossed =>
      refine' RF.dfn_mk (x := "_law_crossed") (st := RF.s_law_crossed) (ps := ["_law_one", "_law_two"]) KX G ?zza ?zzl ?zzc ?zzk (fun _ _ _ _ _ _ us hl => match us, hl with | [_, _], _ => rfl)
      (case zza => k_is); (case zzl => k_is); (case zzc => k_is); (case zzk => k_is))
    (case D_law_some =>
      refine' RF.dfn_mk (x := "_law_some") (st := RF.s_law_some) (ps := ["_law_script", "_law_choice"]) KX G ?zza ?zzl ?zzc ?zzk (fun _ _ _ _ _ _ us hl => match us, hl with | [_, _], _ => rfl)
      (case zza => k_is); (case zzl => k_is); (case zzc => k_is); (case zzk => k_is))
    (case D_law_core =>
      refine' RF.dfn_mk (x := "_law_core") (st := RF.s_law_core) (ps := ["_law_drawing_here"]) KX G ?zza ?zzl ?zzc ?zzk (fun _ _ _ _ _ _ us hl => match us, hl with | [_], _ => rfl)
      (case zza => k_is); (case zzl => k_is); (case zzc => k_is); (case zzk => k_is))
    (case D_law_turn =>
      refine' RF.dfn_mk (x := "_law_turn") (st := RF.s_law_turn) (ps := ["_law_drawing_here", "_law_cell_here"]) KX G ?zza ?zzl ?zzc ?zzk (fun _ _ _ _ _ _ us hl => match us, hl with | [_, _], _ => rfl)
      (case zza => k_is); (case zzl => k_is); (case zzc => k_is); (case zzk => k_is))
    (case D_law_about =>
      refine' RF.dfn_mk (x := "_law_about") (st := RF.s_law_about) (ps := ["_law_walk"]) KX G ?zza ?zzl ?zzc ?zzk (fun _ _ _ _ _ _ us hl => match us, hl with | [_], _ => rfl)
      (case zza => k_is); (case zzl => k_is); (case zzc => k_is); (case zzk => k_is))
    (case D_law_spoilt =>
      refine' RF.dfn_mk (x := "_law_spoilt") (st := RF.s_law_spoilt) (ps := ["_law_walk", "_law_ends", "_law_draws_here"]) KX G ?zza ?zzl ?zzc ?zzk (fun _ _ _ _ _ _ us hl => match us, hl with | [_, _, _], _ => rfl)
      (case zza => k_is); (case zzl => k_is); (case zzc => k_is); (case zzk => k_is))
    (case D_law_is_walk =>
      refine' RF.dfn_mk (x := "_law_is_walk") (st := RF.s_law_is_walk) (ps := ["_law_drawing_here", "_law_ends"]) KX G ?zza ?zzl ?zzc ?zzk (fun _ _ _ _ _ _ us hl => match us, hl with | [_, _], _ => rfl)
      (case zza => k_is); (case zzl => k_is); (case zzc => k_is); (case zzk => k_is))
    (case D_law_is_turn =>
      refine' RF.dfn_mk (x := "_law_is_turn") (st := RF.s_law_is_turn) (ps := ["_law_drawing_here", "_law_ends"]) KX G ?zza ?zzl ?zzc ?zzk (fun _ _ _ _ _ _ us hl => match us, hl with | [_, _], _ => rfl)
      (case zza => k_is); (case zzl => k_is); (case zzc => k_is); (case zzk => k_is))
    (case D_law_lefts =>
      refine' RF.dfn_mk (x := "_law_lefts") (st := RF.s_law_lefts) (ps := ["_law_drawing_here", "_law_walk"]) KX G ?zza ?zzl ?zzc ?zzk (fun _ _ _ _ _ _ us hl => match us, hl with | [_, _], _ => rfl)
      (case zza => k_is); (case zzl => k_is); (case zzc => k_is); (case zzk => k_is))
    (case D_law_crossing =>
      refine' RF.dfn_mk (x := "_law_crossing") (st := RF.s_law_crossing) (ps := ["_law_drawing_here", "_law_walk", "_law_other"]) KX G ?zza ?zzl ?zzc ?zzk (fun _ _ _ _ _ _ us hl => match us, hl with | [_, _, _], _ => rfl)
      (case zza => k_is); (case zzl => k_is); (case zzc => k_is); (case zzk => k_is))
    (case D_law_wholes =>
      refine' RF.dfn_mk (x := "_law_wholes") (st := RF.s_law_wholes) (ps := ["_law_found"]) KX G ?zza ?zzl ?zzc ?zzk (fun _ _ _ _ _ _ us hl => match us, hl with | [_], _ => rfl)
      (case zza => k_is); (case zzl => k_is); (case zzc => k_is); (case zzk => k_is))
    (case D_law_parted =>
      refine' RF.dfn_mk (x := "_law_parted") (st := RF.s_law_parted) (ps := ["_law_drawing_here", "_law_turn_here"]) KX G ?zza ?zzl ?zzc ?zzk (fun _ _ _ _ _ _ us hl => match us, hl with | [_, _], _ => rfl)
      (case zza => k_is); (case zzl => k_is); (case zzc => k_is); (case zzk => k_is))
    (case D_law_paper =>
      refine' RF.dfn_mk (x := "_law_paper") (st := RF.s_law_paper) (ps := ["_law_drawing_here", "_law_turn_here", "_law_found"]) KX G ?zza ?zzl ?zzc ?zzk (fun _ _ _ _ _ _ us hl => match us, hl with | [_, _, _], _ => rfl)
      (case zza => k_is); (case zzl => k_is); (case zzc => k_is); (case zzk => k_is))
    (case D_law_refused =>
      refine' RF.dfn_mk (x := "_law_refused") (st := RF.s_law_refused) (ps := ["_law_drawing_here", "_law_turn_here"]) KX G ?zza ?zzl ?zzc ?zzk (fun _ _ _ _ _ _ us hl => match us, hl with | [_, _], _ => rfl)
      (case zza => k_is); (case zzl => k_is); (case zzc => k_is); (case zzk => k_is))
